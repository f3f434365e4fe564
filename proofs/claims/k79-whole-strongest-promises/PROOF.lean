import PyProof.Rows.All
import Wide.All
import OpenK.AllK
import Wide.FinOn
import KE.KStateDown
import HandS.ForMost
import HandS.FStr
import HandS.DictComp
import HandS.IsInst
import HandS.TryOnly
import HandS.Head0
import HandS.Head1
import HandS.Head2
import HandS.HeadEnd
import HandS.HeadHook1
import HandS.HeadHook2
import HandS.HeadHook3
import HandS.HeadNt
import HandS.Property
import HandS.More
import HandS.Star
import HandS.ClsMeth
import HandS.Exc
import HandS.ExcOwn
import HandS.WordsExc
import HandS.OwnIter
import HandS.IterVal
import HandS.TupLe
import PyProof.CompUse
import HandS.Wide
import HandS.GenOver
import HandS.GenList
import HandS.GenBody
import HandS.Words
import PySem.Challenge.RW_fieldsandcalls_k79_whole_strongest_promi
set_option Elab.async false
set_option linter.all false
set_option maxRecDepth 100000
/-! text Sw1 -/
set_option maxHeartbeats 4000000
/-! Sw1: a small separation logic over the hand layer: frozen data (dat), objects of one owner (own). -/
namespace Sw
open PySem L2
/-- how plain data of a kind stands behind a value, in a heap that only grows -/
structure Ty (α : Type) where
  rep : Hp → V → α → Prop
  mono : ∀ {F F' : Hp} {v : V} {a : α}, Same F F' → rep F v a → rep F' v a
/-- how an object with one owner stands: F frozen, H the heap, fp its addresses -/
structure OTy (α : Type) where
  rep : Hp → Hp → V → List Addr → α → Prop
  stab : ∀ {F F' H H' : Hp} {x : V} {fp : List Addr} {a : α}, rep F H x fp a → Same F F' → (∀ p ∈ fp, H' p = H p) → rep F' H' x fp a
/-- what is known of a slot -/
structure SV where
  ok : List Addr → Hp → Hp → Option V → List Addr → Prop
  stab : ∀ {io : List Addr} {F F' H H' : Hp} {v : Option V} {fp : List Addr}, ok io F H v fp → Same F F' → (∀ p ∈ fp, H' p = H p) → ok io F' H' v fp
  ioch : ∀ {io io' : List Addr} {F H : Hp} {v : Option V} {fp : List Addr}, ok io F H v fp → (∀ p ∈ fp, p ∉ io → p ∉ io') → ok io' F H v fp
variable {α β γ : Type}
def dat (T : Ty α) (a : α) : SV where
  ok _ F _ v fp := fp = [] ∧ ∃ x, v = some x ∧ T.rep F x a
  stab := fun ⟨h1, x, h2, h3⟩ m _ => ⟨h1, x, h2, T.mono m h3⟩
  ioch := fun h _ => h
def any : SV where
  ok _ _ _ _ fp := fp = []
  stab := fun h _ _ => h
  ioch := fun h _ => h
def isv (x : V) : SV where
  ok _ _ _ v fp := fp = [] ∧ v = some x
  stab := fun h _ _ => h
  ioch := fun h _ => h
def own (x : V) (O : OTy α) (a : α) : SV where
  ok _ F H v fp := v = some x ∧ O.rep F H x fp a
  stab := fun ⟨h1, h2⟩ m n => ⟨h1, O.stab h2 m n⟩
  ioch := fun h _ => h
/-- a new object of one owner -/
def fre (O : OTy α) (a : α) : SV where
  ok io F H v fp := ∃ x, v = some x ∧ O.rep F H x fp a ∧ ∀ p ∈ fp, p ∉ io
  stab := fun ⟨x, h1, h2, h3⟩ m n => ⟨x, h1, O.stab h2 m n, h3⟩
  ioch := fun ⟨x, h1, h2, h3⟩ m => ⟨x, h1, h2, fun p hp => m p hp (h3 p hp)⟩
abbrev En := Option V × SV
/-- the entry does not speak of io -/
def Fr (s : SV) : Prop := ∀ {io io' : List Addr} {F H : Hp} {v : Option V} {fp : List Addr}, s.ok io F H v fp → s.ok io' F H v fp
theorem fr_dat {T : Ty α} {a : α} : Fr (dat T a) := fun h => h
theorem fr_any : Fr any := fun h => h
theorem fr_isv {x : V} : Fr (isv x) := fun h => h
theorem fr_own {x : V} {O : OTy α} {a : α} : Fr (own x O a) := fun h => h
def Sl (io : List Addr) (F H : Hp) : List En → List (List Addr) → Prop
  | [], [] => True
  | e :: r, fp :: fs => e.2.ok io F H e.1 fp ∧ Sl io F H r fs
  | _, _ => False
structure Bas where
  F0 : Hp
  H0 : Hp
  io : List Addr
structure CoreAt (B : Bas) (H : Hp) (L : List En) (F : Hp) (fs : List (List Addr)) : Prop where
  fr : Same B.F0 F
  fh : Same F H
  kp : ∀ x o, B.H0 x = some o → x ∉ B.io → H x = some o
  lv : ∀ x o, B.H0 x = some o → ∃ o', H x = some o'
  nc : ∀ x o, B.F0 x = none → B.H0 x = some o → F x = none
  il : ∀ p ∈ B.io, ∃ o, B.H0 p = some o
  sl : Sl B.io F H L fs
  nd : fs.flatten.Nodup
  ow : ∀ p ∈ fs.flatten, F p = none ∧ (∃ o, H p = some o) ∧ (p ∈ B.io ∨ B.H0 p = none)
def Core (B : Bas) (H : Hp) (L : List En) : Prop := ∃ F fs, CoreAt B H L F fs
/-- what a callee finds -/
structure Pre (F H : Hp) (L : List En) (fi : List (List Addr)) : Prop where
  fh : Same F H
  sl : Sl fi.flatten F H L fi
  nd : fi.flatten.Nodup
  ow : ∀ p ∈ fi.flatten, F p = none ∧ ∃ o, H p = some o
section
variable {io io' : List Addr} {F F' H H' : Hp} {L L' Li Lr Lo : List En} {fs fs' : List (List Addr)} {B : Bas} {e : En}
theorem Sl.append : ∀ {L L' : List En} {fs fs' : List (List Addr)}, Sl io F H L fs → Sl io F H L' fs' → Sl io F H (L ++ L') (fs ++ fs')
  | [], _, [], _, _, h => h
  | _ :: _, _, _ :: _, _, ⟨a, r⟩, h => ⟨a, Sl.append r h⟩
theorem Sl.split : ∀ {L L' : List En} {fs : List (List Addr)}, Sl io F H (L ++ L') fs → ∃ f1 f2, fs = f1 ++ f2 ∧ Sl io F H L f1 ∧ Sl io F H L' f2
  | [], _, fs, h => ⟨[], fs, rfl, trivial, h⟩
  | _ :: _, _, [], h => h.elim
  | _ :: L, _, fp :: fs, ⟨a, r⟩ => by
    obtain ⟨f1, f2, e, h1, h2⟩ := Sl.split (L := L) r
    exact ⟨fp :: f1, f2, by rw [e]; rfl, ⟨a, h1⟩, h2⟩
theorem Sl.stab : ∀ {L : List En} {fs : List (List Addr)}, Sl io F H L fs → Same F F' → (∀ p ∈ fs.flatten, H' p = H p) → Sl io F' H' L fs
  | [], [], _, _, _ => trivial
  | _ :: _, fp :: fs, ⟨a, r⟩, m, n => ⟨SV.stab _ a m fun p hp => n p (by rw [List.flatten_cons]; exact List.mem_append_left _ hp), Sl.stab r m fun p hp => n p (by rw [List.flatten_cons]; exact List.mem_append_right _ hp)⟩
theorem Sl.ioch : ∀ {L : List En} {fs : List (List Addr)}, Sl io F H L fs → (∀ p ∈ fs.flatten, p ∉ io → p ∉ io') → Sl io' F H L fs
  | [], [], _, _ => trivial
  | _ :: _, fp :: fs, ⟨a, r⟩, n => ⟨SV.ioch _ a fun p hp => n p (by rw [List.flatten_cons]; exact List.mem_append_left _ hp), Sl.ioch r fun p hp => n p (by rw [List.flatten_cons]; exact List.mem_append_right _ hp)⟩
theorem Sl.free : ∀ {L : List En} {fs : List (List Addr)}, (∀ e ∈ L, Fr e.2) → Sl io F H L fs → Sl io' F H L fs
  | [], [], _, _ => trivial
  | e :: L, fp :: fs, n, ⟨a, r⟩ => ⟨n e List.mem_cons_self a, Sl.free (fun e he => n e (List.mem_cons_of_mem _ he)) r⟩
theorem Sl.perm (p : L.Perm L') : ∀ {fs : List (List Addr)}, Sl io F H L fs → ∃ fs', Sl io F H L' fs' ∧ fs.Perm fs' := by
  induction p with
  | nil => exact fun {fs} h => ⟨fs, h, .refl _⟩
  | cons e p ih =>
    intro fs h
    cases fs with
    | nil => exact h.elim
    | cons fp fs =>
      obtain ⟨fs', h', q⟩ := ih h.2
      exact ⟨fp :: fs', ⟨h.1, h'⟩, q.cons _⟩
  | swap a b l =>
    intro fs h
    match fs, h with
    | fp :: fq :: fs, ⟨a, b, r⟩ => exact ⟨fq :: fp :: fs, ⟨b, a, r⟩, .swap _ _ _⟩
  | trans p q ih1 ih2 =>
    intro fs h
    obtain ⟨f1, h1, q1⟩ := ih1 h
    obtain ⟨f2, h2, q2⟩ := ih2 h1
    exact ⟨f2, h2, q1.trans q2⟩
theorem perm_flatten {f g : List (List Addr)} (p : f.Perm g) : f.flatten.Perm g.flatten := by
  induction p with
  | nil => exact .refl _
  | cons e p ih => rw [List.flatten_cons, List.flatten_cons]; exact ih.append_left e
  | swap a b l =>
    rw [List.flatten_cons, List.flatten_cons, List.flatten_cons, List.flatten_cons, ← List.append_assoc, ← List.append_assoc]
    exact List.Perm.append_right _ List.perm_append_comm
  | trans p q ih1 ih2 => exact ih1.trans ih2
theorem CoreAt.h0n (c : CoreAt B H L F fs) {p : Addr} (h : H p = none) : B.H0 p = none := by
  cases q : B.H0 p with
  | none => rfl
  | some o =>
    obtain ⟨o', e⟩ := c.lv p o q
    rw [h] at e
    cases e
theorem CoreAt.noio (c : CoreAt B H L F fs) {p : Addr} (h : H p = none) : p ∉ B.io := fun q => by
  obtain ⟨o, e⟩ := c.il p q
  rw [c.h0n h] at e
  cases e
theorem CoreAt.perm (c : CoreAt B H L F fs) (p : L.Perm L') : ∃ fs', CoreAt B H L' F fs' := by
  obtain ⟨fs', h, q⟩ := Sl.perm p c.sl
  have qf := perm_flatten q
  exact ⟨fs', c.fr, c.fh, c.kp, c.lv, c.nc, c.il, h, qf.nodup_iff.mp c.nd, fun x hx => c.ow x (qf.mem_iff.mpr hx)⟩
theorem Core.perm (c : Core B H L) (p : L.Perm L') : Core B H L' := by
  obtain ⟨F, fs, c⟩ := c
  obtain ⟨fs', h⟩ := c.perm p
  exact ⟨F, fs', h⟩
theorem CoreAt.tail {fp : List Addr} (c : CoreAt B H (e :: L) F (fp :: fs)) : CoreAt B H L F fs :=
  ⟨c.fr, c.fh, c.kp, c.lv, c.nc, c.il, c.sl.2, (List.nodup_append.mp (show (fp ++ fs.flatten).Nodup from c.nd)).2.1, fun p hp => c.ow p (by rw [List.flatten_cons]; exact List.mem_append_right _ hp)⟩
theorem Core.cut (c : Core B H (e :: L)) : Core B H L := by
  obtain ⟨F, fs, c⟩ := c
  cases fs with
  | nil => exact c.sl.elim
  | cons fp fs => exact ⟨F, fs, c.tail⟩
/-- one entry for another that says less (no more addresses) -/
theorem Core.weak {e' : En} (c : Core B H (e :: L)) (h : ∀ F fp, Same F H → e.2.ok B.io F H e.1 fp → e'.2.ok B.io F H e'.1 fp ∨ e'.2.ok B.io F H e'.1 []) : Core B H (e' :: L) := by
  obtain ⟨F, fs, c⟩ := c
  cases fs with
  | nil => exact c.sl.elim
  | cons fp fs =>
    rcases h F fp c.fh c.sl.1 with h | h
    · exact ⟨F, fp :: fs, c.fr, c.fh, c.kp, c.lv, c.nc, c.il, ⟨h, c.sl.2⟩, c.nd, c.ow⟩
    · have c' := c.tail
      exact ⟨F, [] :: fs, c'.fr, c'.fh, c'.kp, c'.lv, c'.nc, c'.il, ⟨h, c'.sl⟩, c'.nd, c'.ow⟩
/-- an entry that owns nothing, added -/
theorem Core.add (c : Core B H L) (h : ∀ F fs, CoreAt B H L F fs → e.2.ok B.io F H e.1 []) : Core B H (e :: L) := by
  obtain ⟨F, fs, c⟩ := c
  exact ⟨F, [] :: fs, c.fr, c.fh, c.kp, c.lv, c.nc, c.il, ⟨h F fs c, c.sl⟩, c.nd, c.ow⟩
theorem Sl.mem : ∀ {L : List En} {fs : List (List Addr)}, Sl io F H L fs → e ∈ L → ∃ fp, fp ∈ fs ∧ e.2.ok io F H e.1 fp
  | _ :: _, fp :: fs, ⟨a, r⟩, h => by
    rcases List.mem_cons.mp h with rfl | h
    · exact ⟨fp, List.mem_cons_self, a⟩
    · obtain ⟨fp', h1, h2⟩ := Sl.mem r h
      exact ⟨fp', List.mem_cons_of_mem _ h1, h2⟩
/-- THE FRAME RULE -/
theorem Core.frame (c : Core B H (Li ++ Lr)) (hf : ∀ e ∈ Li, Fr e.2) : ∃ F fi, Pre F H Li fi ∧ ∀ H' Lo, Core ⟨F, H, fi.flatten⟩ H' Lo → Core B H' (Lo ++ Lr) := by
  obtain ⟨F, fs, c⟩ := c
  obtain ⟨fi, fr, rfl, s1, s2⟩ := Sl.split c.sl
  have nd := c.nd
  rw [List.flatten_append] at nd
  obtain ⟨n1, n2, n3⟩ := List.nodup_append.mp nd
  have o1 : ∀ p ∈ fi.flatten, F p = none ∧ (∃ o, H p = some o) ∧ (p ∈ B.io ∨ B.H0 p = none) := fun p hp => c.ow p (by rw [List.flatten_append]; exact List.mem_append_left _ hp)
  have o2 : ∀ p ∈ fr.flatten, F p = none ∧ (∃ o, H p = some o) ∧ (p ∈ B.io ∨ B.H0 p = none) := fun p hp => c.ow p (by rw [List.flatten_append]; exact List.mem_append_right _ hp)
  refine ⟨F, fi, ⟨c.fh, s1.free hf, n1, fun p hp => ⟨(o1 p hp).1, (o1 p hp).2.1⟩⟩, fun H' Lo d => ?_⟩
  obtain ⟨F', fs', d⟩ := d
  have dkp : ∀ x o, H x = some o → x ∉ fi.flatten → H' x = some o := d.kp
  have dlv : ∀ x o, H x = some o → ∃ o', H' x = some o' := d.lv
  have dnc : ∀ x o, F x = none → H x = some o → F' x = none := d.nc
  have dfr : Same F F' := d.fr
  have dow : ∀ p ∈ fs'.flatten, F' p = none ∧ (∃ o, H' p = some o) ∧ (p ∈ fi.flatten ∨ H p = none) := d.ow
  have dsl : Sl fi.flatten F' H' Lo fs' := d.sl
  refine ⟨F', fs' ++ fr, c.fr.trans dfr, d.fh, fun x o h1 h2 => ?_, fun x o h1 => ?_, fun x o h1 h2 => ?_, c.il, ?_, ?_, fun p hp => ?_⟩
  · refine dkp x o (c.kp x o h1 h2) fun hx => ?_
    rcases (o1 x hx).2.2 with h | h
    · exact h2 h
    · rw [h1] at h; cases h
  · obtain ⟨o', h⟩ := c.lv x o h1
    exact dlv x o' h
  · obtain ⟨o', h⟩ := c.lv x o h2
    exact dnc x o' (c.nc x o h1 h2) h
  · refine Sl.append (dsl.ioch fun p hp hn hi => ?_) (s2.stab dfr fun p hp => ?_)
    · rcases (dow p hp).2.2 with h | h
      · exact hn h
      · exact c.noio h hi
    · obtain ⟨_, ⟨o, ho⟩, _⟩ := o2 p hp
      rw [ho]
      exact dkp p o ho fun hi => n3 p hi p hp rfl
  · rw [List.flatten_append]
    refine List.nodup_append.mpr ⟨d.nd, n2, fun p hp q hq e => ?_⟩
    subst e
    rcases (dow p hp).2.2 with h | h
    · exact n3 p h p hq rfl
    · obtain ⟨_, ⟨o, ho⟩, _⟩ := o2 p hq
      rw [h] at ho; cases ho
  · rw [List.flatten_append] at hp
    rcases List.mem_append.mp hp with hp | hp
    · refine ⟨(dow p hp).1, (dow p hp).2.1, ?_⟩
      rcases (dow p hp).2.2 with h | h
      · exact (o1 p h).2.2
      · exact .inr (c.h0n h)
    · obtain ⟨h1, ⟨o, ho⟩, h3⟩ := o2 p hp
      exact ⟨dnc p o h1 ho, dlv p o ho, h3⟩
/-- a callee's start -/
theorem Pre.core {fi : List (List Addr)} (p : Pre F H L fi) : Core ⟨F, H, fi.flatten⟩ H L :=
  ⟨F, fi, Same.refl _, p.fh, fun _ _ h _ => h, fun _ o h => ⟨o, h⟩, fun _ _ h _ => h, fun q hq => (p.ow q hq).2, p.sl, p.nd, fun q hq => ⟨(p.ow q hq).1, (p.ow q hq).2, .inl hq⟩⟩
/-- a new object, of no entry -/
theorem CoreAt.new {p : Addr} {o : HO} (c : CoreAt B H L F fs) (h : H p = none) : CoreAt B (upd H p o) L F fs := by
  have ne : ∀ x u, H x = some u → x ≠ p := fun x u e => ne_of_none e h
  refine ⟨c.fr, fun x u e => ?_, fun x u e n => ?_, fun x u e => ?_, c.nc, c.il, c.sl.stab (Same.refl _) fun q hq => ?_, c.nd, fun q hq => ?_⟩
  · rw [upd_ne (ne x u (c.fh x u e))]; exact c.fh x u e
  · rw [upd_ne (ne x u (c.kp x u e n))]; exact c.kp x u e n
  · obtain ⟨u', e'⟩ := c.lv x u e
    exact ⟨u', by rw [upd_ne (ne x u' e')]; exact e'⟩
  · obtain ⟨_, ⟨u, hu⟩, _⟩ := c.ow q hq
    exact upd_ne (ne q u hu)
  · obtain ⟨h1, ⟨u, hu⟩, h3⟩ := c.ow q hq
    exact ⟨h1, ⟨u, by rw [upd_ne (ne q u hu)]; exact hu⟩, h3⟩
/-- an object of no entry taken into the frozen part, with what it is -/
theorem CoreAt.freeze {p : Addr} {o : HO} (c : CoreAt B H L F fs) (h : H p = some o) (h0 : B.H0 p = none) (hf : F p = none) (hn : p ∉ fs.flatten) : CoreAt B H L (upd F p o) fs := by
  have sf : Same F (upd F p o) := fun x u e => by rw [upd_ne (ne_of_none e hf)]; exact e
  refine ⟨c.fr.trans sf, fun x u e => ?_, c.kp, c.lv, fun x u h1 h2 => ?_, c.il, c.sl.stab sf fun _ _ => rfl, c.nd, fun q hq => ?_⟩
  · by_cases hx : x = p
    · subst hx; rw [upd_same] at e; cases e; exact h
    · rw [upd_ne hx] at e; exact c.fh x u e
  · have hx : x ≠ p := fun z => by rw [z, h0] at h2; cases h2
    rw [upd_ne hx]; exact c.nc x u h1 h2
  · obtain ⟨h1, h2, h3⟩ := c.ow q hq
    have hx : q ≠ p := fun z => hn (z ▸ hq)
    exact ⟨by rw [upd_ne hx]; exact h1, h2, h3⟩
theorem CoreAt.Fnone (c : CoreAt B H L F fs) {p : Addr} (h : H p = none) : F p = none := by
  cases q : F p with
  | none => rfl
  | some o => have := c.fh p o q; rw [h] at this; cases this
theorem CoreAt.fsnone (c : CoreAt B H L F fs) {p : Addr} (h : H p = none) : p ∉ fs.flatten := fun q => by
  obtain ⟨_, ⟨o, e⟩, _⟩ := c.ow p q
  rw [h] at e; cases e
/-- a new object, frozen at once: T says what it is -/
theorem Core.alloc {p : Addr} {o : HO} {s : SV} (c : Core B H L) (h : H p = none)
    (ok : ∀ F, (∃ fs, CoreAt B H L F fs) → s.ok B.io (upd F p o) (upd H p o) (some (.ref p)) []) : Core B (upd H p o) ((some (.ref p), s) :: L) := by
  obtain ⟨F, fs, c⟩ := c
  have c2 := ((c.new (o := o) h).freeze upd_same (c.h0n h) (c.Fnone h) (c.fsnone h))
  exact ⟨_, [] :: fs, c2.fr, c2.fh, c2.kp, c2.lv, c2.nc, c2.il, ⟨ok F ⟨fs, c⟩, c2.sl⟩, c2.nd, c2.ow⟩
/-- a new object with one owner -/
theorem Core.allocO {p : Addr} {o : HO} {s : SV} (c : Core B H L) (h : H p = none)
    (ok : ∀ F, (∃ fs, CoreAt B H L F fs) → p ∉ B.io → s.ok B.io F (upd H p o) (some (.ref p)) [p]) : Core B (upd H p o) ((some (.ref p), s) :: L) := by
  obtain ⟨F, fs, c⟩ := c
  have c2 := c.new (o := o) h
  refine ⟨F, [p] :: fs, c2.fr, c2.fh, c2.kp, c2.lv, c2.nc, c2.il, ⟨ok F ⟨fs, c⟩ (c.noio h), c2.sl⟩, ?_, fun q hq => ?_⟩
  · rw [List.flatten_cons]
    exact List.nodup_cons.mpr ⟨c.fsnone h, c.nd⟩
  · rw [List.flatten_cons] at hq
    rcases List.mem_cons.mp hq with rfl | hq
    · exact ⟨c.Fnone h, ⟨o, upd_same⟩, .inr (c.h0n h)⟩
    · exact c2.ow q hq
/-- an object of one owner is written -/
theorem Core.write {p : Addr} {o : HO} {s s' : SV} {v : Option V} (c : Core B H ((v, s) :: L))
    (ok : ∀ F fp, Same F H → s.ok B.io F H v fp → p ∈ fp ∧ s'.ok B.io F (upd H p o) v fp) : Core B (upd H p o) ((v, s') :: L) := by
  obtain ⟨F, fs, c⟩ := c
  cases fs with
  | nil => exact c.sl.elim
  | cons fp fs =>
    obtain ⟨hp, h'⟩ := ok F fp c.fh c.sl.1
    have nd := c.nd
    rw [List.flatten_cons] at nd
    obtain ⟨n1, n2, n3⟩ := List.nodup_append.mp nd
    obtain ⟨f0, ⟨u0, hu0⟩, w0⟩ := c.ow p (by rw [List.flatten_cons]; exact List.mem_append_left _ hp)
    have some' : ∀ x u, H x = some u → ∃ u', upd H p o x = some u' := fun x u e => by
      by_cases hx : x = p
      · exact ⟨o, by rw [hx]; exact upd_same⟩
      · exact ⟨u, by rw [upd_ne hx]; exact e⟩
    refine ⟨F, fp :: fs, c.fr, fun x u e => ?_, fun x u e n => ?_, fun x u e => ?_, c.nc, c.il, ⟨h', c.sl.2.stab (Same.refl _) fun q hq => ?_⟩, c.nd, fun q hq => ?_⟩
    · rw [upd_ne (ne_of_none e f0)]; exact c.fh x u e
    · have hx : x ≠ p := fun z => by
        rcases w0 with h | h
        · exact n (z ▸ h)
        · rw [z, h] at e; cases e
      rw [upd_ne hx]; exact c.kp x u e n
    · obtain ⟨u', e'⟩ := c.lv x u e
      exact some' x u' e'
    · exact upd_ne fun z => n3 p hp q hq z.symm
    · obtain ⟨h1, ⟨u, hu⟩, h3⟩ := c.ow q hq
      exact ⟨h1, some' q u hu, h3⟩
/-- an object of one owner, at one address, is frozen for good -/
theorem Core.frz {p : Addr} {s s' : SV} {v : Option V} (c : Core B H ((v, s) :: L)) (hio : p ∉ B.io)
    (ok : ∀ F fp, Same F H → s.ok B.io F H v fp → fp = [p] ∧ ∀ o, H p = some o → s'.ok B.io (upd F p o) H v []) : Core B H ((v, s') :: L) := by
  obtain ⟨F, fs, c⟩ := c
  cases fs with
  | nil => exact c.sl.elim
  | cons fp fs =>
    obtain ⟨rfl, h'⟩ := ok F fp c.fh c.sl.1
    have nd := c.nd
    rw [List.flatten_cons] at nd
    obtain ⟨n1, n2, n3⟩ := List.nodup_append.mp nd
    obtain ⟨f0, ⟨u0, hu0⟩, w0⟩ := c.ow p (by rw [List.flatten_cons]; exact List.mem_append_left _ List.mem_cons_self)
    have h0 : B.H0 p = none := w0.elim (fun z => (hio z).elim) id
    have c2 := c.tail.freeze hu0 h0 f0 fun z => n3 p List.mem_cons_self p z rfl
    exact ⟨_, [] :: fs, c2.fr, c2.fh, c2.kp, c2.lv, c2.nc, c2.il, ⟨h' u0 hu0, c2.sl⟩, c2.nd, c2.ow⟩
end
end Sw
/-! text Sw2 -/
set_option maxHeartbeats 4000000
namespace Sw
open PySem L2
variable {α β γ δ : Type}
/-! ### kinds of data -/
def tInt : Ty Int := ⟨fun _ v i => v = .int i, fun _ h => h⟩
def tBl : Ty Bool := ⟨fun _ v b => v = .bl b, fun _ h => h⟩
def tStr : Ty Str := ⟨fun _ v s => v = .str s, fun _ h => h⟩
def tNon : Ty Unit := ⟨fun _ v _ => v = .non, fun _ h => h⟩
def tVal : Ty V := ⟨fun _ v x => v = x, fun _ h => h⟩
theorem same_t {K : PySem.W.Frag} {F F' : Hp} {a : Addr} {xs : List V} (e : Same F F') (h : SqT K F a xs) : SqT K F' a xs := by
  rcases h with (h | ⟨o, h⟩) | h
  · exact .inl (.inl (e _ _ h))
  · exact .inl (.inr ⟨o, e _ _ h⟩)
  · exact .inr h
theorem same_rd {F F' : Hp} {a : Addr} {u : HO} (e : Same F F') (h : Rd F a u) : Rd F' a u := by
  rcases h with h | ⟨o, h⟩
  · exact .inl (e _ _ h)
  · exact .inr ⟨o, e _ _ h⟩
def tList (T : Ty α) : Ty (List α) := ⟨fun F v xs => ∃ p vs, v = .ref p ∧ F p = some (.lst vs) ∧ Paired (T.rep F) vs xs,
  fun m ⟨p, vs, e, h, r⟩ => ⟨p, vs, e, m _ _ h, L2.Paired.mapP r fun _ _ z => T.mono m z⟩⟩
/-- a list that may stand in the written part or be locked (the script) -/
def tRow (K : PySem.W.Frag) (T : Ty α) : Ty (List α) := ⟨fun F v xs => ∃ p vs, v = .ref p ∧ SqL K F p vs ∧ Paired (T.rep F) vs xs,
  fun m ⟨p, vs, e, h, r⟩ => ⟨p, vs, e, m.seq h, L2.Paired.mapP r fun _ _ z => T.mono m z⟩⟩
def tTupL (K : PySem.W.Frag) (T : Ty α) : Ty (List α) := ⟨fun F v xs => ∃ p vs, v = .ref p ∧ SqT K F p vs ∧ Paired (T.rep F) vs xs,
  fun m ⟨p, vs, e, h, r⟩ => ⟨p, vs, e, same_t m h, L2.Paired.mapP r fun _ _ z => T.mono m z⟩⟩
def tTup2 (K : PySem.W.Frag) (T : Ty α) (U : Ty β) : Ty (α × β) := ⟨fun F v x => ∃ p a b, v = .ref p ∧ SqT K F p [a, b] ∧ T.rep F a x.1 ∧ U.rep F b x.2,
  fun m ⟨p, a, b, e, h, r, s⟩ => ⟨p, a, b, e, same_t m h, T.mono m r, U.mono m s⟩⟩
def tTup3 (K : PySem.W.Frag) (T : Ty α) (U : Ty β) (W : Ty γ) : Ty (α × β × γ) := ⟨fun F v x => ∃ p a b c, v = .ref p ∧ SqT K F p [a, b, c] ∧ T.rep F a x.1 ∧ U.rep F b x.2.1 ∧ W.rep F c x.2.2,
  fun m ⟨p, a, b, c, e, h, r, s, t⟩ => ⟨p, a, b, c, e, same_t m h, T.mono m r, U.mono m s, W.mono m t⟩⟩
def tOpt (T : Ty α) : Ty (Option α) := ⟨fun F v x => match x with
  | none => v = .non
  | some a => v ≠ .non ∧ T.rep F v a, fun {F F' v a} m h => by
  cases a with
  | none => exact h
  | some a => exact ⟨h.1, T.mono m h.2⟩⟩
/-- a dict with text keys -/
def kvR (T : Ty α) (F : Hp) (w : Key × V) (x : Str × α) : Prop := w.1 = Sum.inr x.1 ∧ T.rep F w.2 x.2
theorem kvR_mono {T : Ty α} {F F' : Hp} {w : Key × V} {x : Str × α} (m : Same F F') (h : kvR T F w x) : kvR T F' w x := ⟨h.1, T.mono m h.2⟩
def tDic (T : Ty α) : Ty (List (Str × α)) := ⟨fun F v x => ∃ p ws, v = .ref p ∧ Rd F p (.dK ws) ∧ Paired (kvR T F) ws x,
  fun m ⟨p, ws, e, h, r⟩ => ⟨p, ws, e, same_rd m h, L2.Paired.mapP r fun _ _ z => kvR_mono m z⟩⟩
/-- a piece of data with its kind -/
structure Dt where
  rep : Hp → V → Prop
  mono : ∀ {F F' : Hp} {v : V}, Same F F' → rep F v → rep F' v
def dt (T : Ty α) (a : α) : Dt := ⟨fun F v => T.rep F v a, T.mono⟩
abbrev FsR (F : Hp) (fs : List (Str × V)) (ds : List (Str × Dt)) : Prop := Paired (fun (q : Str × V) (d : Str × Dt) => q.1 = d.1 ∧ d.2.rep F q.2) fs ds
theorem fsR_mono {F F' : Hp} {fs : List (Str × V)} {ds : List (Str × Dt)} (m : Same F F') (h : FsR F fs ds) : FsR F' fs ds := L2.Paired.mapP h fun _ d z => ⟨z.1, d.2.mono m z.2⟩
/-- an instance of the class at C that stands still -/
def tIns (C : Addr) : Ty (List (Str × Dt)) := ⟨fun F v ds => ∃ p dx fs, v = .ref p ∧ F p = some (.ins C dx fs) ∧ FsR F fs ds, fun m ⟨p, dx, fs, e, h, r⟩ => ⟨p, dx, fs, e, m _ _ h, fsR_mono m r⟩⟩
/-! ### kinds of owned objects -/
def oList (T : Ty α) : OTy (List α) := ⟨fun F H x fp xs => ∃ p vs, x = .ref p ∧ fp = [p] ∧ H p = some (.lst vs) ∧ Paired (T.rep F) vs xs,
  fun ⟨p, vs, e, f, h, r⟩ m n => ⟨p, vs, e, f, by rw [n p (by rw [f]; exact List.mem_cons_self)]; exact h, L2.Paired.mapP r fun _ _ z => T.mono m z⟩⟩
def oSeq : OTy (List Dt) := ⟨fun F H x fp xs => ∃ p vs, x = .ref p ∧ fp = [p] ∧ H p = some (.lst vs) ∧ Paired (fun v (d : Dt) => d.rep F v) vs xs,
  fun ⟨p, vs, e, f, h, r⟩ m n => ⟨p, vs, e, f, by rw [n p (by rw [f]; exact List.mem_cons_self)]; exact h, L2.Paired.mapP r fun _ d z => d.mono m z⟩⟩
def oDic (T : Ty α) : OTy (List (Str × α)) := ⟨fun F H x fp xs => ∃ p ws, x = .ref p ∧ fp = [p] ∧ H p = some (.dK ws) ∧ Paired (kvR T F) ws xs,
  fun ⟨p, ws, e, f, h, r⟩ m n => ⟨p, ws, e, f, by rw [n p (by rw [f]; exact List.mem_cons_self)]; exact h, L2.Paired.mapP r fun _ _ z => kvR_mono m z⟩⟩
def oIns (C : Addr) : OTy (List (Str × Dt)) := ⟨fun F H x fp ds => ∃ p dx fs, x = .ref p ∧ fp = [p] ∧ H p = some (.ins C dx fs) ∧ FsR F fs ds,
  fun ⟨p, dx, fs, e, f, h, r⟩ m n => ⟨p, dx, fs, e, f, by rw [n p (by rw [f]; exact List.mem_cons_self)]; exact h, fsR_mono m r⟩⟩
/-! ### the state -/
structure St (B : Bas) (H : Hp) (σ : L2.St) (ρ : List SV) (τ : List En) : Prop where
  len : σ.length = ρ.length
  core : Core B H (τ ++ σ.zip ρ)
def EvE (B : Bas) (ρ : List SV) (te : TE) (R : SV) (ρ' : List SV) : Prop :=
  ∀ (H : Hp) (σ : L2.St) (τ : List En) (Q : VK), St B H σ ρ τ → (∀ v H', St B H' σ ρ' ((some v, R) :: τ) → Q v H') → te σ H Q
def EvT (B : Bas) (ρ : List SV) (tt : TT) (b : Bool) (ρ' : List SV) : Prop :=
  ∀ (H : Hp) (σ : L2.St) (τ : List En) (Q : Bool → Hp → Prop), St B H σ ρ τ → (∀ H', St B H' σ ρ' τ → Q b H') → tt σ H Q
def ens (vs : List V) (Rs : List SV) : List En := (vs.map some).zip Rs
def EvA (B : Bas) (ρ : List SV) (ta : TA) (Rs : List SV) (ρ' : List SV) : Prop :=
  ∀ (H : Hp) (σ : L2.St) (τ : List En) (Q : List V → Hp → Prop), St B H σ ρ τ → (∀ vs H', vs.length = Rs.length → St B H' σ ρ' (ens vs Rs ++ τ) → Q vs H') → ta σ H Q
structure Kn where
  nx : List SV → Prop
  rt : SV → List SV → Prop
  bk : List SV → Prop := fun _ => False
  ct : List SV → Prop := fun _ => False
def ExS (B : Bas) (ρ : List SV) (ts : TS) (N : Kn) : Prop :=
  ∀ (H : Hp) (σ : L2.St) (τ : List En) (D : Ends), St B H σ ρ τ → (∀ ρ' H' σ', N.nx ρ' → St B H' σ' ρ' τ → D.nx σ' H') → (∀ R ρ' v H' σ', N.rt R ρ' → St B H' σ' ρ' ((some v, R) :: τ) → D.rt v H') →
    (∀ ρ' H' σ', N.bk ρ' → St B H' σ' ρ' τ → D.bk σ' H') → (∀ ρ' H' σ', N.ct ρ' → St B H' σ' ρ' τ → D.ct σ' H') → ts D σ H
section
variable {B : Bas} {H H' : Hp} {σ : L2.St} {ρ ρ1 ρ2 ρ' : List SV} {τ : List En} {L : List En} {R S1 S2 S : SV} {ta tb te : TE} {a : α} {b : β} {c : γ} {T : Ty α} {U : Ty β} {W : Ty γ} {i : Nat}
/-! ### reading an entry -/
theorem Core.d1 {v : Option V} (c : Core B H ((v, dat T a) :: L)) : ∃ F x, Same F H ∧ v = some x ∧ T.rep F x a := by
  obtain ⟨F, fs, c⟩ := c
  cases fs with
  | nil => exact c.sl.elim
  | cons fp fs =>
    obtain ⟨_, x, h1, h2⟩ := c.sl.1
    exact ⟨F, x, c.fh, h1, h2⟩
theorem Core.d2 {v w : Option V} (c : Core B H ((v, dat T a) :: (w, dat U b) :: L)) : ∃ F x y, Same F H ∧ v = some x ∧ w = some y ∧ T.rep F x a ∧ U.rep F y b := by
  obtain ⟨F, fs, c⟩ := c
  match fs, c with
  | [], c => exact c.sl.elim
  | [_], c => exact c.sl.2.elim
  | fp :: fq :: fs, c =>
    obtain ⟨_, x, h1, h2⟩ := c.sl.1
    obtain ⟨_, y, h3, h4⟩ := c.sl.2.1
    exact ⟨F, x, y, c.fh, h1, h3, h2, h4⟩
theorem Core.i1 {v : Option V} {x : V} (c : Core B H ((v, isv x) :: L)) : v = some x := by
  obtain ⟨F, fs, c⟩ := c
  cases fs with
  | nil => exact c.sl.elim
  | cons fp fs => exact c.sl.1.2
theorem Core.o1 {v : Option V} {x : V} {O : OTy α} (c : Core B H ((v, own x O a) :: L)) : ∃ F fp, Same F H ∧ v = some x ∧ O.rep F H x fp a := by
  obtain ⟨F, fs, c⟩ := c
  cases fs with
  | nil => exact c.sl.elim
  | cons fp fs => exact ⟨F, fp, c.fh, c.sl.1.1, c.sl.1.2⟩
theorem Core.cut2 {e f : En} (c : Core B H (e :: f :: L)) : Core B H L := c.cut.cut
theorem Core.swap {e f : En} (c : Core B H (e :: f :: L)) : Core B H (f :: e :: L) := c.perm (.swap _ _ _)
/-- scalars: what needs no heap -/
def Sc (T : Ty α) (a : α) (x : V) : Prop := ∀ F, T.rep F x a
theorem sc_int {i : Int} : Sc tInt i (.int i) := fun _ => rfl
theorem sc_bl {i : Bool} : Sc tBl i (.bl i) := fun _ => rfl
theorem sc_str {i : Str} : Sc tStr i (.str i) := fun _ => rfl
theorem sc_non {i : Unit} : Sc tNon i .non := fun _ => rfl
theorem sc_val {i : V} : Sc tVal i i := fun _ => rfl
theorem Core.sc {x : V} (c : Core B H L) (h : Sc T a x) : Core B H ((some x, dat T a) :: L) := c.add fun F _ _ => ⟨rfl, x, rfl, h F⟩
theorem mem_zip {σ : L2.St} {ρ : List SV} (hl : σ.length = ρ.length) (h : ρ[i]? = some R) : ∃ v, σ[i]? = some v ∧ (v, R) ∈ σ.zip ρ := by
  obtain ⟨hi, e⟩ := List.getElem?_eq_some_iff.mp h
  have hi' : i < σ.length := by omega
  refine ⟨σ[i], List.getElem?_eq_getElem hi', ?_⟩
  refine List.mem_of_getElem? (i := i) ?_
  rw [List.getElem?_zip_eq_some]
  exact ⟨List.getElem?_eq_getElem hi', h⟩
/-! ### expressions -/
theorem ev_var (h : ρ[i]? = some (dat T a)) : EvE B ρ (tVar i) (dat T a) ρ := fun H σ τ Q st q => by
  obtain ⟨v, e, m⟩ := mem_zip st.len h
  obtain ⟨F, fs, c⟩ := id st.core
  obtain ⟨fp, _, h1, x, h2, h3⟩ := Sl.mem c.sl (List.mem_append_right τ m)
  refine ⟨x, by rw [e]; exact congrArg some h2, q x H ⟨st.len, st.core.add fun F' fs' c' => ?_⟩⟩
  obtain ⟨fp', _, h1', x', h2', h3'⟩ := Sl.mem c'.sl (List.mem_append_right τ m)
  rw [h2] at h2'
  cases h2'
  exact ⟨rfl, _, rfl, h3'⟩
theorem ev_varO {x : V} {O : OTy α} (h : ρ[i]? = some (own x O a)) : EvE B ρ (tVar i) (isv x) ρ := fun H σ τ Q st q => by
  obtain ⟨v, e, m⟩ := mem_zip st.len h
  obtain ⟨F, fs, c⟩ := id st.core
  obtain ⟨fp, _, h2, h3⟩ := Sl.mem c.sl (List.mem_append_right τ m)
  exact ⟨x, by rw [e]; exact congrArg some h2, q x H ⟨st.len, st.core.add fun _ _ _ => ⟨rfl, rfl⟩⟩⟩
theorem ev_sc {x : V} (h : Sc T a x) : EvE B ρ (tC x) (dat T a) ρ := fun H σ τ Q st q => q x H ⟨st.len, st.core.sc h⟩
theorem ev_int {k : Int} : EvE B ρ (tC (.int k)) (dat tInt k) ρ := ev_sc sc_int
theorem ev_bl {k : Bool} : EvE B ρ (tC (.bl k)) (dat tBl k) ρ := ev_sc sc_bl
theorem ev_str {k : Str} : EvE B ρ (tC (.str k)) (dat tStr k) ρ := ev_sc sc_str
theorem ev_non : EvE B ρ (tC .non) (dat tNon ()) ρ := ev_sc sc_non
theorem ev_val {x : V} : EvE B ρ (tC x) (dat tVal x) ρ := ev_sc sc_val
theorem EvE.is {a' : α} (h : EvE B ρ te (dat T a) ρ') (e : a = a') : EvE B ρ te (dat T a') ρ' := e ▸ h
/-- the kind seen otherwise -/
theorem EvE.as {a : α} {b : β} (h : EvE B ρ te (dat T a) ρ') (e : ∀ F x, T.rep F x a → U.rep F x b) : EvE B ρ te (dat U b) ρ' := fun H σ τ Q st q =>
  h H σ τ Q st fun v H' st' => q v H' ⟨st'.len, st'.core.weak fun F fp _ ⟨h1, x, h2, h3⟩ => .inl ⟨h1, x, h2, e F x h3⟩⟩
theorem ev_op {r : R2} (ha : EvE B ρ ta S1 ρ1) (hb : EvE B ρ1 tb S2 ρ2)
    (hr : ∀ H x y L Q, Core B H ((some y, S2) :: (some x, S1) :: L) → (∀ v H', Core B H' ((some v, R) :: L) → Q v H') → r x y H Q) : EvE B ρ (tOp r ta tb) R ρ2 := fun H σ τ Q st q =>
  ha H σ τ _ st fun x H1 st1 => hb H1 σ _ _ st1 fun y H2 st2 => hr H2 x y _ Q st2.core fun v H' c => q v H' ⟨st2.len, c⟩
theorem ev_un {r : V → Hp → VK → Prop} (ha : EvE B ρ ta S1 ρ1) (hr : ∀ H x L Q, Core B H ((some x, S1) :: L) → (∀ v H', Core B H' ((some v, R) :: L) → Q v H') → r x H Q) : EvE B ρ (tUn r ta) R ρ1 := fun H σ τ Q st q =>
  ha H σ τ _ st fun x H1 st1 => hr H1 x _ Q st1.core fun v H' c => q v H' ⟨st1.len, c⟩
/-- both scalars, a scalar comes -/
theorem ev_op2 {r : R2} {x y z : V} (ha : EvE B ρ ta (dat T a) ρ1) (hb : EvE B ρ1 tb (dat U b) ρ2) (h1 : ∀ F v, T.rep F v a → v = x) (h2 : ∀ F v, U.rep F v b → v = y) (h3 : Sc W c z) (hr : ∀ H (Q : VK), Q z H → r x y H Q) : EvE B ρ (tOp r ta tb) (dat W c) ρ2 :=
  ev_op ha hb fun H x' y' L Q k q => by
    obtain ⟨F, u, w, _, e1, e2, r1, r2⟩ := k.d2
    cases e1; cases e2
    obtain rfl := h1 F _ r2
    obtain rfl := h2 F _ r1
    exact hr H Q (q z H (k.cut2.sc h3))
theorem ev_add {i j : Int} (ha : EvE B ρ ta (dat tInt i) ρ1) (hb : EvE B ρ1 tb (dat tInt j) ρ2) : EvE B ρ (tOp (rI0 fun i j => .int (i + j)) ta tb) (dat tInt (i + j)) ρ2 :=
  ev_op2 ha hb (fun _ _ h => h) (fun _ _ h => h) sc_int fun _ _ q => ⟨i, j, rfl, rfl, q⟩
theorem ev_sub {i j : Int} (ha : EvE B ρ ta (dat tInt i) ρ1) (hb : EvE B ρ1 tb (dat tInt j) ρ2) : EvE B ρ (tOp (rI0 fun i j => .int (i - j)) ta tb) (dat tInt (i - j)) ρ2 :=
  ev_op2 ha hb (fun _ _ h => h) (fun _ _ h => h) sc_int fun _ _ q => ⟨i, j, rfl, rfl, q⟩
theorem ev_I {C : Int → Int → Prop} {g : Int → Int → Int} {i j : Int} (ha : EvE B ρ ta (dat tInt i) ρ1) (hb : EvE B ρ1 tb (dat tInt j) ρ2) (hc : C i j) : EvE B ρ (tOp (rI C fun i j => .int (g i j)) ta tb) (dat tInt (g i j)) ρ2 :=
  ev_op2 ha hb (fun _ _ h => h) (fun _ _ h => h) sc_int fun _ _ q => ⟨i, j, rfl, rfl, hc, q⟩
theorem ev_cmpI {g : Int → Int → Bool} {i j : Int} (ha : EvE B ρ ta (dat tInt i) ρ1) (hb : EvE B ρ1 tb (dat tInt j) ρ2) : EvE B ρ (tOp (rI0 fun i j => .bl (g i j)) ta tb) (dat tBl (g i j)) ρ2 :=
  ev_op2 ha hb (fun _ _ h => h) (fun _ _ h => h) sc_bl fun _ _ q => ⟨i, j, rfl, rfl, q⟩
theorem ev_eqS {s t : Str} (ha : EvE B ρ ta (dat tStr s) ρ1) (hb : EvE B ρ1 tb (dat tStr t) ρ2) : EvE B ρ (tOp rEq ta tb) (dat tBl (decide (s = t))) ρ2 :=
  ev_op2 ha hb (fun _ _ h => h) (fun _ _ h => h) sc_bl fun _ _ q => ⟨rfl, by rw [show decide (V.str s = V.str t) = decide (s = t) from decide_eq_decide.mpr ⟨V.str.inj, congrArg _⟩]; exact q⟩
theorem ev_neS {s t : Str} (ha : EvE B ρ ta (dat tStr s) ρ1) (hb : EvE B ρ1 tb (dat tStr t) ρ2) : EvE B ρ (tOp rNe ta tb) (dat tBl (!decide (s = t))) ρ2 :=
  ev_op2 ha hb (fun _ _ h => h) (fun _ _ h => h) sc_bl fun _ _ q => ⟨rfl, by rw [show decide (V.str s = V.str t) = decide (s = t) from decide_eq_decide.mpr ⟨V.str.inj, congrArg _⟩]; exact q⟩
theorem ev_eqI {s t : Int} (ha : EvE B ρ ta (dat tInt s) ρ1) (hb : EvE B ρ1 tb (dat tInt t) ρ2) : EvE B ρ (tOp rEq ta tb) (dat tBl (decide (s = t))) ρ2 :=
  ev_op2 ha hb (fun _ _ h => h) (fun _ _ h => h) sc_bl fun _ _ q => ⟨rfl, by rw [show decide (V.int s = V.int t) = decide (s = t) from decide_eq_decide.mpr ⟨V.int.inj, congrArg _⟩]; exact q⟩
theorem ev_neI {s t : Int} (ha : EvE B ρ ta (dat tInt s) ρ1) (hb : EvE B ρ1 tb (dat tInt t) ρ2) : EvE B ρ (tOp rNe ta tb) (dat tBl (!decide (s = t))) ρ2 :=
  ev_op2 ha hb (fun _ _ h => h) (fun _ _ h => h) sc_bl fun _ _ q => ⟨rfl, by rw [show decide (V.int s = V.int t) = decide (s = t) from decide_eq_decide.mpr ⟨V.int.inj, congrArg _⟩]; exact q⟩
theorem ev_eqB {s t : Bool} (ha : EvE B ρ ta (dat tBl s) ρ1) (hb : EvE B ρ1 tb (dat tBl t) ρ2) : EvE B ρ (tOp rEq ta tb) (dat tBl (decide (s = t))) ρ2 :=
  ev_op2 ha hb (fun _ _ h => h) (fun _ _ h => h) sc_bl fun _ _ q => ⟨rfl, by rw [show decide (V.bl s = V.bl t) = decide (s = t) from decide_eq_decide.mpr ⟨V.bl.inj, congrArg _⟩]; exact q⟩
abbrev rAddS : R2 := fun x y H Q => ∃ i j, x = .str i ∧ y = .str j ∧ i.length + j.length ≤ sizeLine ∧ Q (.str (i ++ j)) H
theorem ev_addS {s t : Str} (ha : EvE B ρ ta (dat tStr s) ρ1) (hb : EvE B ρ1 tb (dat tStr t) ρ2) (hz : s.length + t.length ≤ sizeLine) : EvE B ρ (tOp rAddS ta tb) (dat tStr (s ++ t)) ρ2 :=
  ev_op2 ha hb (fun _ _ h => h) (fun _ _ h => h) sc_str fun _ _ q => ⟨s, t, rfl, rfl, hz, q⟩
end
end Sw
/-! text Sw3 -/
set_option maxHeartbeats 4000000
namespace Sw
open PySem L2
variable {α β γ δ : Type}
section
variable {B : Bas} {H H' : Hp} {σ : L2.St} {ρ ρ1 ρ2 ρ' : List SV} {τ : List En} {L L1 L2' : List En} {R S1 S2 S : SV} {ta tb te : TE} {tt tu : TT} {as : TA} {a : α} {b : β} {c : γ} {T : Ty α} {U : Ty β} {W : Ty γ} {i : Nat} {K : PySem.W.Frag} {N : Kn}
theorem Core.left : ∀ {L L' : List En}, Core B H (L ++ L') → Core B H L := fun {L L'} c => by
  obtain ⟨F, fs, c⟩ := c
  obtain ⟨f1, f2, rfl, s1, s2⟩ := Sl.split c.sl
  have nd := c.nd
  rw [List.flatten_append] at nd
  exact ⟨F, f1, c.fr, c.fh, c.kp, c.lv, c.nc, c.il, s1, (List.nodup_append.mp nd).1, fun p hp => c.ow p (by rw [List.flatten_append]; exact List.mem_append_left _ hp)⟩
theorem Core.right {L L' : List En} (c : Core B H (L ++ L')) : Core B H L' := (c.perm List.perm_append_comm).left
theorem Core.mid {e : En} (c : Core B H (e :: (L ++ L1))) : Core B H (e :: L1) := by
  have p : (e :: (L ++ L1)).Perm (L ++ (e :: L1)) := List.perm_middle.symm
  exact (c.perm p).right
theorem Core.one {e : En} (c : Core B H (e :: L)) : Core B H [e] := (show Core B H ([e] ++ L) from c).left
theorem zip_perm : ∀ {σ : L2.St} {ρ : List SV} {i : Nat} {s : SV}, σ.length = ρ.length → ρ[i]? = some s → ∃ v, σ[i]? = some v ∧ ∃ l, (σ.zip ρ).Perm ((v, s) :: l) ∧ (∀ s', (σ.zip (ρ.set i s')).Perm ((v, s') :: l)) ∧ ∀ w s', ((σ.set i w).zip (ρ.set i s')).Perm ((w, s') :: l)
  | [], [], i, s, _, h => by simp at h
  | v :: σ, r :: ρ, 0, s, _, h => by
    simp at h
    subst h
    exact ⟨v, rfl, σ.zip ρ, .refl _, fun s' => .refl _, fun w s' => .refl _⟩
  | v :: σ, r :: ρ, i + 1, s, hl, h => by
    obtain ⟨v', h1, l, p1, p2, p3⟩ := zip_perm (σ := σ) (ρ := ρ) (i := i) (s := s) (by simpa using hl) (by simpa using h)
    refine ⟨v', by simpa using h1, (v, r) :: l, ?_, fun s' => ?_, fun w s' => ?_⟩
    · exact (p1.cons _).trans (.swap _ _ _)
    · exact ((p2 s').cons _).trans (.swap _ _ _)
    · exact ((p3 w s').cons _).trans (.swap _ _ _)
  | [], _ :: _, _, _, hl, _ => by cases hl
  | _ :: _, [], _, _, hl, _ => by cases hl
theorem perm_top {e : En} {l L : List En} (τ : List En) (p : L.Perm (e :: l)) : (τ ++ L).Perm (e :: (τ ++ l)) := (List.Perm.append_left τ p).trans List.perm_middle
/-! ### arguments -/
theorem ea_nil : EvA B ρ tNil [] ρ := fun H σ τ Q st q => q [] H rfl st
theorem ens_len {vs : List V} {Rs : List SV} : (ens (v :: vs) (R :: Rs)) = (some v, R) :: ens vs Rs := rfl
theorem ea_cons {Rs : List SV} (h : EvE B ρ te R ρ1) (hr : EvA B ρ1 as Rs ρ2) : EvA B ρ (tCons te as) (R :: Rs) ρ2 := fun H σ τ Q st q =>
  h H σ τ _ st fun v H1 st1 => hr H1 σ _ _ st1 fun vs H2 hl st2 => q (v :: vs) H2 (by simp [hl]) ⟨st2.len, by
    have p : (ens vs Rs ++ ((some v, R) :: τ) ++ σ.zip ρ2).Perm ((some v, R) :: (ens vs Rs ++ τ ++ σ.zip ρ2)) := by
      rw [List.append_assoc, List.append_assoc]
      exact List.perm_middle
    exact st2.core.perm p⟩
/-- temps of one kind -/
theorem sl_pair {io : List Addr} {F H : Hp} : ∀ {vs : List V} {xs : List α} {L : List En} {fs : List (List Addr)}, vs.length = xs.length → Sl io F H (ens vs (xs.map (dat T)) ++ L) fs → Paired (T.rep F) vs xs
  | [], [], _, _, _, _ => .nil
  | v :: vs, x :: xs, L, [], _, h => h.elim
  | v :: vs, x :: xs, L, fp :: fs, hl, ⟨⟨_, y, h1, h2⟩, h⟩ => by
    cases h1
    exact .cons h2 (sl_pair (by simpa using hl) h)
theorem sl_dts {io : List Addr} {F H : Hp} : ∀ {vs : List V} {Rs : List SV} {ds : List Dt} {L : List En} {fs : List (List Addr)}, Paired (fun (R : SV) (d : Dt) => ∀ io F H v fp, R.ok io F H (some v) fp → d.rep F v) Rs ds → vs.length = Rs.length → Sl io F H (ens vs Rs ++ L) fs → Paired (fun v (d : Dt) => d.rep F v) vs ds
  | [], _, _, _, _, .nil, _, _ => .nil
  | _ :: _, _, _, _, _, .nil, hl, _ => by cases hl
  | [], _, _, _, _, .cons _ _, hl, _ => by cases hl
  | v :: vs, _, _, L, [], .cons _ _, _, h => h.elim
  | v :: vs, _, _, L, fp :: fs, .cons a r, hl, ⟨h1, h⟩ => .cons (a _ _ _ _ _ h1) (sl_dts r (by simpa using hl) h)
theorem d_dat : ∀ io F H v fp, (dat T a).ok io F H (some v) fp → (dt T a).rep F v := fun io F H v fp ⟨_, x, h1, h2⟩ => by cases h1; exact h2
/-! ### displays -/
theorem fr_lst {xs : List α} (h : EvA B ρ as (xs.map (dat T)) ρ1) (hz : xs.length ≤ sizeLine) : EvE B ρ (tLst as) (fre (oList T) xs) ρ1 := fun H σ τ Q st q =>
  h H σ τ _ st fun vs H1 hl st1 => ⟨by rw [hl, List.length_map]; exact hz, fun p hp => q _ _ ⟨st1.len, by
    have c := st1.core
    rw [List.append_assoc] at c
    exact (c.allocO (o := .lst vs) (s := fre (oList T) xs) hp fun F ⟨fs, c'⟩ hn => ⟨.ref p, rfl, ⟨p, vs, rfl, rfl, upd_same, sl_pair (by rw [hl, List.length_map]) c'.sl⟩, fun q hq => by rw [List.mem_singleton.mp hq]; exact hn⟩).mid⟩⟩
theorem fr_seq {Rs : List SV} {ds : List Dt} (h : EvA B ρ as Rs ρ1) (hd : Paired (fun (R : SV) (d : Dt) => ∀ io F H v fp, R.ok io F H (some v) fp → d.rep F v) Rs ds) (hz : Rs.length ≤ sizeLine) : EvE B ρ (tLst as) (fre oSeq ds) ρ1 := fun H σ τ Q st q =>
  h H σ τ _ st fun vs H1 hl st1 => ⟨by rw [hl]; exact hz, fun p hp => q _ _ ⟨st1.len, by
    have c := st1.core
    rw [List.append_assoc] at c
    exact (c.allocO (o := .lst vs) (s := fre oSeq ds) hp fun F ⟨fs, c'⟩ hn => ⟨.ref p, rfl, ⟨p, vs, rfl, rfl, upd_same, sl_dts hd hl c'.sl⟩, fun q hq => by rw [List.mem_singleton.mp hq]; exact hn⟩).mid⟩⟩
theorem ev_tupL {xs : List α} (h : EvA B ρ as (xs.map (dat T)) ρ1) (hz : xs.length ≤ sizeLine) : EvE B ρ (tTup as) (dat (tTupL K T) xs) ρ1 := fun H σ τ Q st q =>
  h H σ τ _ st fun vs H1 hl st1 => ⟨by rw [hl, List.length_map]; exact hz, fun p hp => q _ _ ⟨st1.len, by
    have c := st1.core
    rw [List.append_assoc] at c
    refine (c.alloc (o := .tup vs) (s := dat (tTupL K T) xs) hp fun F ⟨fs, c'⟩ => ⟨rfl, .ref p, rfl, p, vs, rfl, .inl (.inl upd_same), ?_⟩).mid
    have m : Same F (upd F p (.tup vs)) := fun x u e => by rw [upd_ne (ne_of_none e (c'.Fnone hp))]; exact e
    exact L2.Paired.mapP (sl_pair (by rw [hl, List.length_map]) c'.sl) fun _ _ z => T.mono m z⟩⟩
theorem ev_tup2 (h : EvA B ρ as [dat T a, dat U b] ρ1) : EvE B ρ (tTup as) (dat (tTup2 K T U) (a, b)) ρ1 := fun H σ τ Q st q =>
  h H σ τ _ st fun vs H1 hl st1 => ⟨by rw [hl]; show 2 ≤ sizeLine; decide, fun p hp => q _ _ ⟨st1.len, by
    have c := st1.core
    rw [List.append_assoc] at c
    match vs, hl, c with
    | [v, w], _, c =>
      refine (c.alloc (o := .tup [v, w]) (s := dat (tTup2 K T U) (a, b)) hp fun F ⟨fs, c'⟩ => ?_).mid
      have m : Same F (upd F p (.tup [v, w])) := fun x u e => by rw [upd_ne (ne_of_none e (c'.Fnone hp))]; exact e
      match fs, c' with
      | fp :: fq :: fs, c' =>
        obtain ⟨⟨_, x, h1, h2⟩, ⟨_, y, h3, h4⟩, _⟩ := c'.sl
        cases h1; cases h3
        exact ⟨rfl, .ref p, rfl, p, v, w, rfl, .inl (.inl upd_same), T.mono m h2, U.mono m h4⟩⟩⟩
/-! ### new objects frozen -/
theorem EvE.frz {O : OTy α} (h : EvE B ρ te (fre O a) ρ') (hs : ∀ F H x fp, Same F H → O.rep F H x fp a → ∃ p, fp = [p] ∧ ∀ o, H p = some o → U.rep (upd F p o) x b) : EvE B ρ te (dat U b) ρ' := fun H σ τ Q st q =>
  h H σ τ Q st fun v H' st' => q v H' ⟨st'.len, by
    obtain ⟨F, fs, c⟩ := st'.core
    cases fs with
    | nil => exact c.sl.elim
    | cons fp fs =>
      obtain ⟨x, h1, h2, h3⟩ := c.sl.1
      obtain ⟨p, rfl, h4⟩ := hs F H' x fp c.fh h2
      have nd := c.nd
      rw [List.flatten_cons] at nd
      obtain ⟨n1, n2, n3⟩ := List.nodup_append.mp nd
      obtain ⟨f0, ⟨u0, hu0⟩, w0⟩ := c.ow p (by rw [List.flatten_cons]; exact List.mem_append_left _ List.mem_cons_self)
      have h0 : B.H0 p = none := w0.elim (fun z => (h3 p List.mem_cons_self z).elim) id
      have c2 := c.tail.freeze hu0 h0 f0 fun z => n3 p List.mem_cons_self p z rfl
      exact ⟨_, [] :: fs, c2.fr, c2.fh, c2.kp, c2.lv, c2.nc, c2.il, ⟨⟨rfl, x, h1, h4 u0 hu0⟩, c2.sl⟩, c2.nd, c2.ow⟩⟩
theorem upd_same_mono {F H : Hp} {p : Addr} {o : HO} (m : Same F H) (h : H p = some o) : Same F (upd F p o) := fun x u e => by
  by_cases hx : x = p
  · subst hx
    have := m x u e
    rw [h] at this
    cases this
    exact upd_same
  · rw [upd_ne hx]; exact e
theorem frz_list {xs : List α} : ∀ F H x fp, Same F H → (oList T).rep F H x fp xs → ∃ p, fp = [p] ∧ ∀ o, H p = some o → (tList T).rep (upd F p o) x xs := fun F H x fp m ⟨p, vs, h1, h2, h3, h4⟩ =>
  ⟨p, h2, fun o ho => ⟨p, vs, h1, by rw [h3] at ho; cases ho; exact upd_same, L2.Paired.mapP h4 fun _ _ z => T.mono (upd_same_mono m ho) z⟩⟩
theorem frz_dic {xs : List (Str × α)} : ∀ F H x fp, Same F H → (oDic T).rep F H x fp xs → ∃ p, fp = [p] ∧ ∀ o, H p = some o → (tDic T).rep (upd F p o) x xs := fun F H x fp m ⟨p, vs, h1, h2, h3, h4⟩ =>
  ⟨p, h2, fun o ho => ⟨p, vs, h1, by rw [h3] at ho; cases ho; exact .inl upd_same, L2.Paired.mapP h4 fun _ _ z => kvR_mono (upd_same_mono m ho) z⟩⟩
theorem frz_ins {C : Addr} {ds : List (Str × Dt)} : ∀ F H x fp, Same F H → (oIns C).rep F H x fp ds → ∃ p, fp = [p] ∧ ∀ o, H p = some o → (tIns C).rep (upd F p o) x ds := fun F H x fp m ⟨p, dx, fs, h1, h2, h3, h4⟩ =>
  ⟨p, h2, fun o ho => ⟨p, dx, fs, h1, by rw [h3] at ho; cases ho; exact upd_same, fsR_mono (upd_same_mono m ho) h4⟩⟩
theorem EvE.lst {xs : List α} (h : EvE B ρ te (fre (oList T) xs) ρ') : EvE B ρ te (dat (tList T) xs) ρ' := h.frz frz_list
theorem EvE.dic {xs : List (Str × α)} (h : EvE B ρ te (fre (oDic T) xs) ρ') : EvE B ρ te (dat (tDic T) xs) ρ' := h.frz frz_dic
theorem EvE.ins {C : Addr} {ds : List (Str × Dt)} (h : EvE B ρ te (fre (oIns C) ds) ρ') : EvE B ρ te (dat (tIns C) ds) ρ' := h.frz frz_ins
theorem ev_lst {xs : List α} (h : EvA B ρ as (xs.map (dat T)) ρ1) (hz : xs.length ≤ sizeLine) : EvE B ρ (tLst as) (dat (tList T) xs) ρ1 := (fr_lst h hz).lst
/-! ### tests -/
theorem et_test {k : Bool} (h : EvE B ρ te (dat tBl k) ρ1) : EvT B ρ (tTest te) k ρ1 := fun H σ τ Q st q => h H σ τ _ st fun v H' st' => by
  obtain ⟨F, x, _, h1, h2⟩ := st'.core.d1
  cases h1
  exact ⟨k, h2, q H' ⟨st'.len, st'.core.cut⟩⟩
theorem et_B {k : Bool} (h : EvE B ρ te (dat tBl k) ρ1) : EvT B ρ (tB te) k ρ1 := fun H σ τ Q st q => h H σ τ _ st fun v H' st' => by
  obtain ⟨F, x, _, h1, h2⟩ := st'.core.d1
  cases h1
  exact ⟨k, h2, q H' ⟨st'.len, st'.core.cut⟩⟩
theorem et_not {k : Bool} (h : EvT B ρ tt k ρ1) : EvT B ρ (tNot tt) (!k) ρ1 := fun H σ τ Q st q => h H σ τ _ st fun H' st' => q H' st'
theorem et_and {k j : Bool} (h : EvT B ρ tt k ρ1) (h2 : k = true → EvT B ρ1 tu j ρ1) : EvT B ρ (tAnd tt tu) (k && j) ρ1 := fun H σ τ Q st q => h H σ τ _ st fun H' st' => by
  cases k with
  | true =>
    show tu σ H' Q
    exact h2 rfl H' σ τ Q st' q
  | false =>
    show Q false H'
    exact q H' st'
theorem et_or {k j : Bool} (h : EvT B ρ tt k ρ1) (h2 : k = false → EvT B ρ1 tu j ρ1) : EvT B ρ (tOr tt tu) (k || j) ρ1 := fun H σ τ Q st q => h H σ τ _ st fun H' st' => by
  cases k with
  | true =>
    show Q true H'
    exact q H' st'
  | false =>
    show tu σ H' Q
    exact h2 rfl H' σ τ Q st' q
theorem ev_not {k : Bool} (h : EvE B ρ te (dat tBl k) ρ1) : EvE B ρ (tNotV te) (dat tBl (!k)) ρ1 := fun H σ τ Q st q => h H σ τ _ st fun v H' st' => by
  obtain ⟨F, x, _, h1, h2⟩ := st'.core.d1
  cases h1
  exact ⟨k, h2, q _ H' ⟨st'.len, st'.core.cut.sc sc_bl⟩⟩
theorem ev_and {k j : Bool} (h : EvE B ρ ta (dat tBl k) ρ1) (h2 : k = true → EvE B ρ1 tb (dat tBl j) ρ1) : EvE B ρ (tAndV ta tb) (dat tBl (k && j)) ρ1 := fun H σ τ Q st q => h H σ τ _ st fun v H' st' => by
  obtain ⟨F, x, _, h1, e⟩ := st'.core.d1
  cases h1
  refine ⟨k, e, ?_⟩
  cases k with
  | true =>
    show tb σ H' Q
    exact h2 rfl H' σ τ Q ⟨st'.len, st'.core.cut⟩ q
  | false =>
    show Q (.bl false) H'
    exact q _ H' ⟨st'.len, st'.core.cut.sc sc_bl⟩
theorem ev_or {k j : Bool} (h : EvE B ρ ta (dat tBl k) ρ1) (h2 : k = false → EvE B ρ1 tb (dat tBl j) ρ1) : EvE B ρ (tOrV ta tb) (dat tBl (k || j)) ρ1 := fun H σ τ Q st q => h H σ τ _ st fun v H' st' => by
  obtain ⟨F, x, _, h1, e⟩ := st'.core.d1
  cases h1
  refine ⟨k, e, ?_⟩
  cases k with
  | true =>
    show Q (.bl true) H'
    exact q _ H' ⟨st'.len, st'.core.cut.sc sc_bl⟩
  | false =>
    show tb σ H' Q
    exact h2 rfl H' σ τ Q ⟨st'.len, st'.core.cut⟩ q
theorem ev_if {k : Bool} (h : EvT B ρ tt k ρ1) (h1 : k = true → EvE B ρ1 ta R ρ2) (h2 : k = false → EvE B ρ1 tb R ρ2) : EvE B ρ (tIf tt ta tb) R ρ2 := fun H σ τ Q st q => h H σ τ _ st fun H' st' => by
  cases k with
  | true =>
    show ta σ H' Q
    exact h1 rfl H' σ τ Q st' q
  | false =>
    show tb σ H' Q
    exact h2 rfl H' σ τ Q st' q
/-! ### statements -/
theorem ex_next (h : N.nx ρ) : ExS B ρ tNext N := fun H σ τ D st h1 _ _ _ => h1 ρ H σ h st
theorem ex_seq {t u : TS} (h : ExS B ρ t { N with nx := fun ρ' => ExS B ρ' u N }) : ExS B ρ (tSeq t u) N := fun H σ τ D st h1 h2 h3 h4 =>
  h H σ τ { D with nx := u D } st (fun ρ' H' σ' k st' => k H' σ' τ D st' h1 h2 h3 h4) h2 h3 h4
theorem St.asg {v : V} (st : St B H σ ρ ((some v, R) :: τ)) (h : i < ρ.length) : St B H (σ.set i (some v)) (ρ.set i R) τ := by
  obtain ⟨w, _, l, p1, _, p3⟩ := zip_perm st.len (List.getElem?_eq_getElem h)
  refine ⟨by rw [List.length_set, List.length_set]; exact st.len, ?_⟩
  have c := st.core.perm ((perm_top τ p1).cons (some v, R))
  have c2 : Core B H ((some v, R) :: (τ ++ l)) := c.swap.cut
  exact c2.perm (perm_top τ (p3 (some v) R)).symm
theorem ex_asg (h : EvE B ρ te R ρ1) (hi : i < ρ1.length) (k : N.nx (ρ1.set i R)) : ExS B ρ (tAsg te (gName i)) N := fun H σ τ D st h1 _ _ _ =>
  h H σ τ _ st fun v H' st' => h1 _ H' _ k (st'.asg hi)
/-- a new object with one owner is given a name -/
theorem ex_asgO {O : OTy α} (h : EvE B ρ te (fre O a) ρ1) (hi : i < ρ1.length) (hO : ∀ F H x fp, O.rep F H x fp a → ∃ p, x = .ref p ∧ fp = [p]) (k : ∀ p, p ∉ B.io → N.nx (ρ1.set i (own (.ref p) O a))) : ExS B ρ (tAsg te (gName i)) N := fun H σ τ D st h1 _ _ _ =>
  h H σ τ _ st fun v H' st' => by
    obtain ⟨F, fs, c⟩ := id st'.core
    cases fs with
    | nil => exact c.sl.elim
    | cons fp fs =>
      obtain ⟨x, e1, e2, e3⟩ := c.sl.1
      obtain ⟨p, e4, e5⟩ := hO F H' x fp e2
      cases e1
      subst e4
      refine h1 _ H' _ (k p (e3 p (by rw [e5]; exact List.mem_cons_self))) (St.asg ⟨st'.len, ?_⟩ hi)
      exact ⟨F, fp :: fs, c.fr, c.fh, c.kp, c.lv, c.nc, c.il, ⟨⟨rfl, e2⟩, c.sl.2⟩, c.nd, c.ow⟩
theorem oat_list {xs : List α} : ∀ F H x fp, (oList T).rep F H x fp xs → ∃ p, x = .ref p ∧ fp = [p] := fun F H x fp ⟨p, vs, h1, h2, _⟩ => ⟨p, h1, h2⟩
theorem oat_seq {ds : List Dt} : ∀ F H x fp, oSeq.rep F H x fp ds → ∃ p, x = .ref p ∧ fp = [p] := fun F H x fp ⟨p, vs, h1, h2, _⟩ => ⟨p, h1, h2⟩
theorem oat_dic {xs : List (Str × α)} : ∀ F H x fp, (oDic T).rep F H x fp xs → ∃ p, x = .ref p ∧ fp = [p] := fun F H x fp ⟨p, vs, h1, h2, _⟩ => ⟨p, h1, h2⟩
theorem oat_ins {C : Addr} {ds : List (Str × Dt)} : ∀ F H x fp, (oIns C).rep F H x fp ds → ∃ p, x = .ref p ∧ fp = [p] := fun F H x fp ⟨p, _, _, h1, h2, _⟩ => ⟨p, h1, h2⟩
theorem ex_ret (h : EvE B ρ te R ρ1) (k : N.rt R ρ1) : ExS B ρ (tRet te) N := fun H σ τ D st _ h2 _ _ => h H σ τ _ st fun v H' st' => h2 R ρ1 v H' σ k st'
theorem ex_retN (k : N.rt (dat tNon ()) ρ) : ExS B ρ tRetN N := fun H σ τ D st _ h2 _ _ => h2 _ ρ .non H σ k ⟨st.len, st.core.sc sc_non⟩
/-- an object of one owner is handed out -/
theorem ex_retO {p : Addr} {O : OTy α} (h : ρ[i]? = some (own (.ref p) O a)) (hio : p ∉ B.io) (hO : ∀ F H x fp, O.rep F H x fp a → ∃ p, x = .ref p ∧ fp = [p]) (k : N.rt (fre O a) (ρ.set i any)) : ExS B ρ (tRet (tVar i)) N := fun H σ τ D st _ h2 _ _ => by
  obtain ⟨v, e, l, p1, p2, p3⟩ := zip_perm st.len h
  have c := st.core.perm (perm_top τ p1)
  obtain ⟨F, fp, _, e1, e2⟩ := c.o1
  refine ⟨.ref p, by rw [e, e1], h2 (fre O a) _ _ H σ k ⟨by rw [List.length_set]; exact st.len, ?_⟩⟩
  have c2 : Core B H ((some (.ref p), fre O a) :: (τ ++ l)) := c.weak fun F fp _ ⟨h1, h2⟩ => .inl ⟨.ref p, rfl, h2, fun q hq => by
    obtain ⟨p', h5, h6⟩ := hO _ _ _ _ h2
    cases h5
    rw [h6] at hq
    rw [List.mem_singleton.mp hq]
    exact hio⟩
  have c3 : Core B H ((v, any) :: (some (.ref p), fre O a) :: (τ ++ l)) := c2.add fun _ _ _ => rfl
  have q1 : ((some (V.ref p), fre O a) :: τ ++ σ.zip (ρ.set i any)).Perm ((v, any) :: (some (V.ref p), fre O a) :: (τ ++ l)) := perm_top ((some (V.ref p), fre O a) :: τ) (p2 any)
  exact c3.perm q1.symm
theorem ex_drop (h : EvE B ρ te R ρ1) (k : N.nx ρ1) : ExS B ρ (tDrop te) N := fun H σ τ D st h1 _ _ _ => h H σ τ _ st fun v H' st' => h1 ρ1 H' σ k ⟨st'.len, st'.core.cut⟩
theorem ex_if {t u : TS} {k : Bool} (h : EvT B ρ tt k ρ1) (h1 : k = true → ExS B ρ1 t N) (h2 : k = false → ExS B ρ1 u N) : ExS B ρ (tIfS tt t u) N := fun H σ τ D st k1 k2 k3 k4 => h H σ τ _ st fun H' st' => by
  cases k with
  | true =>
    show t D σ H'
    exact h1 rfl H' σ τ D st' k1 k2 k3 k4
  | false =>
    show u D σ H'
    exact h2 rfl H' σ τ D st' k1 k2 k3 k4
/-- less is known from here on -/
def Ent (B : Bas) (ρ ρ' : List SV) : Prop := ∀ H σ τ, St B H σ ρ τ → St B H σ ρ' τ
theorem Ent.refl : Ent B ρ ρ := fun _ _ _ h => h
theorem Ent.trans (a : Ent B ρ ρ1) (b : Ent B ρ1 ρ2) : Ent B ρ ρ2 := fun H σ τ h => b H σ τ (a H σ τ h)
theorem ex_ent {t : TS} (e : Ent B ρ ρ') (h : ExS B ρ' t N) : ExS B ρ t N := fun H σ τ D st => h H σ τ D (e H σ τ st)
theorem ent_any (h : i < ρ.length) : Ent B ρ (ρ.set i any) := fun H σ τ st => by
  obtain ⟨v, _, l, p1, p2, _⟩ := zip_perm st.len (List.getElem?_eq_getElem h)
  refine ⟨by rw [List.length_set]; exact st.len, ?_⟩
  have c := st.core.perm (perm_top τ p1)
  have c2 : Core B H ((v, any) :: (τ ++ l)) := c.weak fun _ _ _ _ => .inr rfl
  exact c2.perm (perm_top τ (p2 any)).symm
/-- an owned object is frozen -/
theorem ent_frz {p : Addr} {O : OTy α} (h : ρ[i]? = some (own (.ref p) O a)) (hio : p ∉ B.io) (hs : ∀ F H x fp, Same F H → O.rep F H x fp a → ∃ p, fp = [p] ∧ ∀ o, H p = some o → U.rep (upd F p o) x b)
    (hO : ∀ F H x fp, O.rep F H x fp a → ∃ p, x = .ref p ∧ fp = [p]) : Ent B ρ (ρ.set i (dat U b)) := fun H σ τ st => by
  obtain ⟨v, _, l, p1, p2, _⟩ := zip_perm st.len h
  refine ⟨by rw [List.length_set]; exact st.len, ?_⟩
  have c := st.core.perm (perm_top τ p1)
  have c2 : Core B H ((v, dat U b) :: (τ ++ l)) := c.frz hio fun F fp m ⟨h1, h2⟩ => by
    obtain ⟨q, h3, h4⟩ := hO F H _ fp h2
    cases h3
    obtain ⟨q', h5, h6⟩ := hs F H _ fp m h2
    rw [h4] at h5
    cases h5
    exact ⟨h4, fun o ho => ⟨rfl, _, h1, h6 o ho⟩⟩
  exact c2.perm (perm_top τ (p2 (dat U b))).symm
end
end Sw
/-! text Sw8 -/
set_option maxHeartbeats 4000000
namespace Sw
open PySem PySem.Spec PyProof.Rows L2
/-- a def that keeps a promise, called by position -/
structure Fn (P : Program) (w : World) (K : PySem.W.Frag) (mg : Str → Option Value) (base : Heap) (k : Nat) (f : Addr) (sp : Sp) : Prop where
  run : FnR P w K mg base CX0 k f sp
  kp : PySem.W.keepIn K (.ref f) = true
/-- .. by the name that the module has for it -/
structure Gn (P : Program) (w : World) (K : PySem.W.Frag) (mg : Str → Option Value) (base : Heap) (k : Nat) (x : Str) (sp : Sp) : Prop where
  ex : ∃ f, Fn P w K mg base k f sp ∧ mg x = some (.ref f)
/-- a method of the class at C -/
structure Mn (P : Program) (w : World) (K : PySem.W.Frag) (mg : Str → Option Value) (base : Heap) (k : Nat) (C : Addr) (m : Str) (sp : Sp) : Prop where
  ex : ∃ f, FnR P w K mg base CX0 k f sp ∧ Meth K C m f
  cl : Cls K C
/-- a class that is made by its name; sp: its __init__'s promise -/
structure Cn (P : Program) (w : World) (K : PySem.W.Frag) (mg : Str → Option Value) (base : Heap) (k : Nat) (x : Str) (C : Addr) (sp : Sp) : Prop where
  ex : ∃ f, FnR P w K mg base CX0 k f sp ∧ Mk K C f
  mgx : mg x = some (.ref C)
def tCl (sp : Sp) (t : TA) : TE := fun σ H Q => t σ H fun vs H1 => sp vs H1 Q E0
def tMt (C : Addr) (m : Str) (sp : Sp) (ta : TE) (t : TA) : TE := fun σ H Q => ta σ H fun x H1 => ∃ a dx fs, x = .ref a ∧ H1 a = some (.ins C dx fs) ∧ fs.lookup m = none ∧ t σ H1 fun vs H2 => sp (x :: vs) H2 Q E0
def tMk (C : Addr) (sp : Sp) (t : TA) : TE := fun σ H Q => t σ H fun vs H1 => ∀ x dx, H1 x = Option.none → H1 dx = Option.none → dx ≠ x →
  sp (V.ref x :: vs) (upd (upd H1 dx (.own x)) x (.ins C dx [])) (fun v H2 => v = .non ∧ Q (.ref x) H2) E0
/-- x(*y): the items of a list or tuple -/
def tSt (K : PySem.W.Frag) (te : TE) : TA := fun σ H Q => te σ H fun y H1 => ∃ a xs, y = V.ref a ∧ (SqT K H1 a xs ∨ SqL K H1 a xs) ∧ Q xs H1
section
variable {X : Cx} {j k : Nat} {C f : Addr} {x m : Str} {sp : Sp} {o e : Expr} {es : List Expr} {ta te : TE} {t : TA} {p sp_ pos apos : Pos} {pl : Sem Bool}
theorem pe_gc {v : V} (hg : Gl X x) (h : ∃ u, X.mg x = some u ∧ RelV v u) (hd : (x == ("__debug__" : Str)) = false := by decide) : PE X (.Name x p) (tC v) := by
  obtain ⟨u, hm, hu⟩ := h
  exact pe_glob hg hm hu hd
theorem pe_cl (F : Gn X.prog X.w X.K X.mg X.base k x sp) (hr : Room j X.A) (hk : k ≤ j) (hg : Gl X x) (ha : PA X (e :: es) t) (hdb : (x == ("__debug__" : Str)) = false := by decide)
    (he : starEach (e :: es) X.env = (false, eval e X.env) :: starEach es X.env := by rfl) (hpl : (backTo pos (starEach es X.env)).any (·.1) = false := by rfl) : PE X (.Call (.Name x p) (e :: es) [] pos) (tCl sp t) := by
  obtain ⟨f, F, hm⟩ := F.ex
  refine ⟨fun pins s σ H Q I h => ?_⟩
  refine wpAny_Call_Name_kw (ld_glob I hg hm ?_ hdb)
  refine PySem.W.callWith_K (h₀ := X.base) I.ok.mod.kin F.kp (thn (ha.run pos pins s σ H _ I h) fun us s1 ⟨vs, H1, I1, r, q⟩ => ⟨I1.kIn, ?_⟩) he hpl
  exact wpAny_call (run_fnR F.run (hr.mono hk) pass0 I1 r q)
theorem pe_cl0 (F : Gn X.prog X.w X.K X.mg X.base k x sp) (hr : Room j X.A) (hk : k ≤ j) (hg : Gl X x) (hdb : (x == ("__debug__" : Str)) = false := by decide) : PE X (.Call (.Name x p) [] [] pos) (tCl sp tNil) := by
  obtain ⟨f, F, hm⟩ := F.ex
  refine ⟨fun pins s σ H Q I h => ?_⟩
  refine wpAny_Call_Name_kw (ld_glob I hg hm ?_ hdb)
  exact PySem.W.callWith_K0 I.kIn F.kp (wpAny_call (run_fnR F.run (hr.mono hk) pass0 I .nil h))
theorem pe_ml (M : Mn X.prog X.w X.K X.mg X.base k C m sp) (hr : Room j X.A) (hk : k ≤ j) (he : PE X o ta) (ha : PA X (e :: es) t)
    (hst : starEach (e :: es) X.env = (false, eval e X.env) :: starEach es X.env := by rfl) (hpl : (backTo pos (starEach es X.env)).any (·.1) = false := by rfl)
    (ht : eval (.Call (.Attribute o m apos) (e :: es) [] pos) X.env = (do
      let ov ← eval o X.env
      standAt apos.atName
      let (f, first) ← holding [ov] (getMethod ov m pl)
      callWith pos f first (backTo pos (starEach (e :: es) X.env)) (backToKw pos (keywordEach [] X.env))) := by rfl) :
    PE X (.Call (.Attribute o m apos) (e :: es) [] pos) (tMt C m sp ta t) := by
  obtain ⟨f, F, hm⟩ := M.ex
  exact pe_methR (pl := pl) he M.cl hm F (hr.mono hk) pass0 ha hst hpl ht
theorem pe_ml0 (M : Mn X.prog X.w X.K X.mg X.base k C m sp) (hr : Room j X.A) (hk : k ≤ j) (he : PE X o ta)
    (ht : eval (.Call (.Attribute o m apos) [] [] pos) X.env = (do
      let ov ← eval o X.env
      standAt apos.atName
      let (f, first) ← holding [ov] (getMethod ov m pl)
      callWith pos f first (backTo pos (starEach [] X.env)) (backToKw pos (keywordEach [] X.env))) := by rfl) :
    PE X (.Call (.Attribute o m apos) [] [] pos) (tMt C m sp ta tNil) := by
  obtain ⟨f, F, hm⟩ := M.ex
  refine ⟨fun pins s σ H Q I h => ?_⟩
  refine PySem.W.methodCall_KW (pl := pl) (thn (he.run pins s σ H _ I h) fun u s1 ⟨x, H1, I1, rx, a, dx, fs, ex, ea, l, q⟩ => ?_) ht
  subst ex
  obtain rfl : u = Value.ref a := rx
  refine getmeth_ok I1 ea M.cl hm l ?_
  exact PySem.W.callWith_K0 (first := [.ref a]) I1.kIn hm.kp (wpAny_call (run_fnR (us := [.ref a]) (vs := [.ref a]) F (hr.mono hk) pass0 I1 (.cons rfl .nil) q))
theorem pe_mkR (c : Cn X.prog X.w X.K X.mg X.base k x C sp) (hr : Room j X.A) (hk : k + 1 ≤ j) (hg : Gl X x) (ha : PA X (e :: es) t) (hdb : (x == ("__debug__" : Str)) = false := by decide)
    (he : starEach (e :: es) X.env = (false, eval e X.env) :: starEach es X.env := by rfl) (hpl : (backTo pos (starEach es X.env)).any (·.1) = false := by rfl) : PE X (.Call (.Name x p) (e :: es) [] pos) (tMk C sp t) := by
  obtain ⟨f, F, M⟩ := c.ex
  exact StX.pe_makeR M F (hr.mono hk) hg c.mgx pass0 ha hdb he hpl
theorem pe_mkR0 (c : Cn X.prog X.w X.K X.mg X.base k x C sp) (hr : Room j X.A) (hk : k + 1 ≤ j) (hg : Gl X x) (hdb : (x == ("__debug__" : Str)) = false := by decide) : PE X (.Call (.Name x p) [] [] pos) (tMk C sp tNil) := by
  obtain ⟨f, F, M⟩ := c.ex
  refine ⟨fun pins s σ H Q I h => ?_⟩
  refine wpAny_Call_Name_kw (ld_glob I hg c.mgx ?_ hdb)
  exact PySem.W.callWith_K0 I.kIn M.kp (StX.run_makeR M F (hr.mono hk) pass0 I .nil h)
/-- C(*y) -/
theorem pe_mkS (c : Cn X.prog X.w X.K X.mg X.base k x C sp) (hr : Room j X.A) (hk : k + 1 ≤ j) (hg : Gl X x) (he : PE X e te) (hdb : (x == ("__debug__" : Str)) = false := by decide) (hst : starEach [.Starred e sp_] X.env = [(true, eval e X.env)] := by rfl) :
    PE X (.Call (.Name x p) [.Starred e sp_] [] pos) (tMk C sp (tSt X.K te)) := by
  obtain ⟨f, F, M⟩ := c.ex
  refine ⟨fun pins s σ H Q I h => ?_⟩
  refine wpAny_Call_Name_kw (ld_glob I hg c.mgx ?_ hdb)
  refine PySem.W.callWith_S (h₀ := X.base) I.ok.mod.kin M.kp (thn (he.run pins s σ H _ I h) fun v s1 ⟨y, H1, I1, ry, a, xs, ey, hxs, q⟩ => ?_) hst
  subst ey
  obtain rfl : v = Value.ref a := ry
  exact StX.star_any I1 hxs fun us s2 I2 rv => ⟨I2.kIn, StX.run_makeR M F (hr.mono hk) pass0 I2 rv q⟩
/-- cls(): a local name holds the class -/
theorem pe_mkL0 {i : Nat} (c : Cn X.prog X.w X.K X.mg X.base k m C sp) (hr : Room j X.A) (hk : k + 1 ≤ j) (hN : X.N[i]? = some x) (hv : Vis X.env.scope x) (hdb : (x == ("__debug__" : Str)) = false := by decide) (hcd : (x == ("__classdict__" : Str)) = false := by decide) :
    PE X (.Call (.Name x p) [] [] pos) (fun σ H Q => σ[i]? = some (some (.ref C)) ∧ tMk C sp tNil σ H Q) := by
  obtain ⟨f, F, M⟩ := c.ex
  refine ⟨fun pins s σ H Q I h => ?_⟩
  obtain ⟨hs, ht⟩ := h
  refine wpAny_Call_Name_kw (thn ((pe_var (pos := p) hN hv hdb hcd).run pins s σ H (fun v H1 => v = .ref C ∧ H1 = H) I ⟨.ref C, hs, rfl, rfl⟩) fun u s1 ⟨v, H1, I1, r1, q1⟩ => ?_)
  obtain ⟨rfl, rfl⟩ := q1
  cases r1
  exact PySem.W.callWith_K0 I1.kIn M.kp (StX.run_makeR M F (hr.mono hk) pass0 I1 .nil ht)
end
/-! ### operators of own classes -/
theorem cmpBack_of {X : Cx} {pins : List (Addr × Obj)} {σ : L2.St} {Q : VK} {v : Value} {s' : Shared} (h : EP X pins σ Q v s') : PySem.W.CmpBack (EP X pins σ Q) v s' := by
  obtain ⟨x, H', I, r, q⟩ := h
  cases v with
  | notImplemented =>
    cases x with
    | non => cases r
    | bl b => cases r
    | int i => obtain ⟨_, z⟩ := r; cases z
    | str i => obtain ⟨_, z⟩ := r; cases z
    | byt i => obtain ⟨_, z⟩ := r; cases z
    | flt i => obtain ⟨_, z⟩ := r; cases z
    | ref a => cases r
    | ty n => cases r
  | _ => exact ⟨x, H', I, r, q⟩
/-- the class's own rule of an operator: the def at f, found under the name -/
structure OpO (K : PySem.W.Frag) (C : Addr) (name : Str) (f : Addr) : Prop where
  at_ : PySem.W.findIn K (.ref C) name = some (some (.ref f))
  fn : PySem.W.isFn K (.ref f) = true
  sf : PySem.W.selfFirst K C = true
section
variable {X : Cx} {j k : Nat} {C f : Addr} {sp : Sp}
theorem run_own {pins : List (Addr × Obj)} {σ : L2.St} {H : Hp} {s : Shared} {Q : VK} {us : List Value} {vs : List V} (F : FnR X.prog X.w X.K X.mg X.base CX0 k f sp) (hr : Room k X.A) (I : Inv X pins σ H s) (r : Vals vs us) (h : sp vs H Q E0) :
    wpAny (model X.prog X.w) X.A (call (.ref f) us) (EP X pins σ Q) X.xe s := wpAny_call (run_fnR F hr pass0 I r h)
/-- both of the class -/
def rOwn2 (C : Addr) (sp : Sp) : R2 := fun x y H Q => ∃ a b dx dy fs gs, x = .ref a ∧ y = .ref b ∧ H a = some (.ins C dx fs) ∧ H b = some (.ins C dy gs) ∧ sp [x, y] H Q E0
theorem op_own {op : Operator} (o : OpO X.K C (PySem.dunder op.info.2) f) (F : FnR X.prog X.w X.K X.mg X.base CX0 k f sp) (hr : Room j X.A) (hk : k ≤ j) : OpR X (binaryOp op) (rOwn2 C sp) := by
  intro pins s σ H x y v u Q I rx ry h
  obtain ⟨a, b, dx, dy, fs, gs, rfl, rfl, ha, hb, q⟩ := h
  obtain rfl : v = Value.ref a := rx
  obtain rfl : u = Value.ref b := ry
  obtain ⟨mA, OA, _, _, _, _⟩ := ins_get I.hok ha
  obtain ⟨oda, JA, _⟩ := OA.look
  obtain ⟨mB, OB, _, _, _, _⟩ := ins_get I.hok hb
  obtain ⟨odb, JB, _⟩ := OB.look
  obtain ⟨m, hf⟩ := I.fr
  exact PySem.W.binop_K hf I.ok.mod.kin JA JB.type o.sf o.at_ o.fn (thn (run_own (us := [.ref a, .ref b]) (vs := [.ref a, .ref b]) F (hr.mono hk) I (.cons rfl (.cons rfl .nil)) q) fun _ _ z => cmpBack_of z)
/-- a <= b, both of the class -/
theorem op_ownLe (o : OpO X.K C "__le__" f) (F : FnR X.prog X.w X.K X.mg X.base CX0 k f sp) (hr : Room j X.A) (hk : k ≤ j) (hn : PySem.W.notFirst X.K C (.ref C) = true) : OpR X (compareOp .LtE) (rOwn2 C sp) := by
  intro pins s σ H x y v u Q I rx ry h
  obtain ⟨a, b, dx, dy, fs, gs, rfl, rfl, ha, hb, q⟩ := h
  obtain rfl : v = Value.ref a := rx
  obtain rfl : u = Value.ref b := ry
  obtain ⟨mA, OA, _, _, _, _⟩ := ins_get I.hok ha
  obtain ⟨oda, JA, _⟩ := OA.look
  obtain ⟨mB, OB, _, _, _, _⟩ := ins_get I.hok hb
  obtain ⟨odb, JB, _⟩ := OB.look
  obtain ⟨m, hf⟩ := I.fr
  have hu : X.A.units < cLine := Nat.lt_of_le_of_lt (by omega) hr.un
  exact PySem.W.cmp_ofLtE (PySem.W.cmp_K hu hf I.ok.mod.kin JA JB.type hn o.at_ o.fn (thn (run_own (us := [.ref a, .ref b]) (vs := [.ref a, .ref b]) F (hr.mono hk) I (.cons rfl (.cons rfl .nil)) q) fun _ _ z => cmpBack_of z))
/-- x op= y by the class's own in-place rule, y anything -/
def rIpO (C : Addr) (sp : Sp) : R2 := fun x y H Q => ∃ a dx fs, x = .ref a ∧ H a = some (.ins C dx fs) ∧ sp [x, y] H Q E0
theorem ip_own {op : Operator} (o : OpO X.K C (PySem.dunderI op.info.2) f) (F : FnR X.prog X.w X.K X.mg X.base CX0 k f sp) (hr : Room j X.A) (hk : k ≤ j) : PIp X op (rIpO C sp) := by
  intro pins s σ H x y v u Q I rx ry h
  obtain ⟨a, dx, fs, rfl, ha, q⟩ := h
  obtain rfl : v = Value.ref a := rx
  obtain ⟨mA, OA, _, _, _, _⟩ := ins_get I.hok ha
  obtain ⟨oda, JA, _⟩ := OA.look
  obtain ⟨m, hf⟩ := I.fr
  exact PySem.W.ksp_inplace hf I.ok.mod.kin JA o.sf o.at_ o.fn (thn (run_own (us := [.ref a, u]) (vs := [.ref a, y]) F (hr.mono hk) I (.cons rfl (.cons ry .nil)) q) fun _ _ z => cmpBack_of z)
/-- o[i] = v by an own __setitem__ -/
def rSetO (C : Addr) (sp : Sp) : TSet := fun o i v H Q => ∃ a dx fs, o = .ref a ∧ H a = some (.ins C dx fs) ∧ sp [o, i, v] H (fun _ H' => Q H') E0
theorem set_own (o : OpO X.K C "__setitem__" f) (hq : PySem.W.noSeq X.K C = true) (F : FnR X.prog X.w X.K X.mg X.base CX0 k f sp) (hr : Room j X.A) (hk : k ≤ j) : PSet X (rSetO C sp) := by
  intro pins s σ H ov i v uo ui uv Q I ro ri rv h
  obtain ⟨a, dx, fs, rfl, ha, q⟩ := h
  obtain rfl : uo = Value.ref a := ro
  obtain ⟨mA, OA, _, _, _, _⟩ := ins_get I.hok ha
  obtain ⟨oda, JA, _⟩ := OA.look
  obtain ⟨m, hf⟩ := I.fr
  refine PySem.W.ksp_setItem hf I.ok.mod.kin JA hq o.at_ o.fn (thn (run_own (us := [.ref a, ui, uv]) (vs := [.ref a, i, v]) F (hr.mono hk) I (.cons rfl (.cons ri (.cons rv .nil))) q) fun _ s' z => ?_)
  obtain ⟨x, H', I', r, q'⟩ := z
  exact ⟨H', I', q'⟩
/-! ### a staticmethod of a class, called on it -/
structure Sm (K : PySem.W.Frag) (C : Addr) (m : Str) (p g : Addr) : Prop where
  rd : ClX.CRead K C (.type "type")
  at_ : PySem.W.findCls K (.ref C) (.type "type") m = some (.get (.builtin "staticmethod.__get__") (.ref p) .none (.ref C))
  rc : ∃ rest, PySem.W.recIn K p "staticmethod" = some (.ref g :: rest)
  kp : PySem.W.keepIn K (.ref g) = true
end
section
variable {X : Cx} {j k : Nat} {C p g : Addr} {m : Str} {sp : Sp} {o e : Expr} {es : List Expr} {t : TA} {pos apos : Pos} {pl : Sem Bool} {ta : TE}
theorem pe_sm0 (S : Sm X.K C m p g) (F : FnR X.prog X.w X.K X.mg X.base CX0 k g sp) (hr : Room j X.A) (hk : k ≤ j) (he : PE X o (tC (.ref C)))
    (ht : eval (.Call (.Attribute o m apos) [] [] pos) X.env = (do
      let ov ← eval o X.env
      standAt apos.atName
      let (f, first) ← holding [ov] (getMethod ov m pl)
      callWith pos f first (backTo pos (starEach [] X.env)) (backToKw pos (keywordEach [] X.env))) := by rfl) :
    PE X (.Call (.Attribute o m apos) [] [] pos) (tCl sp tNil) := by
  refine ⟨fun pins s σ H Q I h => ?_⟩
  refine PySem.W.methodCall_KW (pl := pl) (thn (he.run pins s σ H (fun v H1 => v = .ref C ∧ H1 = H) I ⟨rfl, rfl⟩) fun u s1 ⟨x, H1, I1, rx, ex, eh⟩ => ?_) ht
  subst ex eh
  obtain rfl : u = Value.ref C := rx
  obtain ⟨rest, hp⟩ := S.rc
  refine PySem.W.method_cls I1.kIn S.rd.ga (PySem.W.cls_bind I1.kIn S.rd.rd S.at_ (wpAny_call (PySem.W.sm_get (s := { s1 with toks := s1.toks + 1 }) I1.kIn hp (PySem.W.handed_on rfl ?_))))
  have I2 := I1.tok (s1.toks + 1)
  exact PySem.W.callWith_K0 (first := []) I2.kIn S.kp (wpAny_call (run_fnR (us := []) (vs := []) F (hr.mono hk) pass0 I2 .nil h))
end
/-! ### x.f = e where f is a property with a setter -/
structure PropS (K : PySem.W.Frag) (C : Addr) (f : Str) (p g : Addr) : Prop where
  over : PySem.W.plainOver K C = true
  sa : PySem.W.findIn K (.ref C) "__setattr__" = some (some (.builtin "object.__setattr__"))
  tk : PySem.W.takerIn K C f = some (some (.ref p))
  ty : PySem.W.typeIn K (.ref p) = some (.type "property")
  rc : ∃ a rest, PySem.W.recIn K p "property" = some (a :: .ref g :: rest)
def sPro (C : Addr) (sp : Sp) (ta tv : TE) : TS := fun D σ H => tv σ H fun y H1 => ta σ H1 fun x H2 => ∃ a dx fs, x = .ref a ∧ H2 a = some (.ins C dx fs) ∧ sp [x, y] H2 (fun _ H3 => D.nx σ H3) E0
section
variable {X : Cx} {j k : Nat} {C p g : Addr} {f : Str} {sp : Sp} {o value : Expr} {ta tv : TE} {pos pos' : Pos}
theorem ps_pro (S : PropS X.K C f p g) (F : FnR X.prog X.w X.K X.mg X.base CX0 k g sp) (hr : Room j X.A) (hk : k + 2 ≤ j) (ha : PE X o ta) (hv : PE X value tv) (hs : swapsWith value (some (.Attribute o f pos')) pos.line X.env = pure false) :
    PS X (.Assign [.Attribute o f pos'] value pos) (sPro C sp ta tv) := by
  refine ⟨fun pins s σ H D I h => ?_⟩
  refine plainObj_wpAny_Assign_Attribute (thn (hv.run pins s σ H _ I h) fun u s1 ⟨y, H1, I1, ry, q⟩ => thn (ha.run pins s1 σ H1 _ I1 q) fun ov s2 ⟨x, H2, I2, rx, a, dx, fs, ex, ea, q2⟩ => ?_) hs
  subst ex
  obtain rfl : ov = Value.ref a := rx
  obtain ⟨mA, O, _, _, _, _⟩ := ins_get I2.hok ea
  obtain ⟨od, J, _⟩ := O.look
  obtain ⟨a0, rest, hp⟩ := S.rc
  have hr2 : Room (k + 2) X.A := hr.mono hk
  have I3 := I2.tok (s2.toks + 1)
  refine PySem.W.set_plain I2.kIn J S.sa (PySem.W.osa_descr (s := { s2 with toks := s2.toks + 1 }) PySem.W.KF.slot_pset I3.kIn J S.over S.tk S.ty (PySem.W.prop_set (s := { s2 with toks := s2.toks + 1 }) I3.kIn hp ?_))
  refine codeAny_mono (F X.A.in1.in1 X.stack { s2 with toks := s2.toks + 1 } H2 [.ref a, u] [.ref a, y] _ E0 hr2.in1.in1 I3.env0.in1.in1 (.cons rfl (.cons ry .nil)) q2) fun r s' hq => ?_
  cases r with
  | error er => exact (pass0 (X := X) pins σ H2 { s2 with toks := s2.toks + 1 } er s' I3 hq)
  | ok fl =>
    cases fl with
    | ret u =>
      obtain ⟨v, H', I4, rv, q3⟩ := I3.after hq
      exact ⟨σ, H', I4, q3⟩
    | next => exact False.elim hq
    | brk => exact False.elim hq
    | cont => exact False.elim hq
end
end Sw
/-! text Sw4 -/
set_option maxHeartbeats 4000000
namespace Sw
open PySem L2
variable {α β γ δ κ : Type}
section
variable {B : Bas} {H H' : Hp} {σ : L2.St} {ρ ρ1 ρ2 ρ3 ρ' : List SV} {τ : List En} {L L1 L2' : List En} {R S1 S2 S : SV} {ta tb te tl : TE} {tt tu : TT} {as : TA} {a : α} {b : β} {c : γ} {T : Ty α} {U : Ty β} {W : Ty γ} {i j : Nat} {K : PySem.W.Frag} {N : Kn} {A : Type}
/-! ### promises -/
def spF (pre : A → Prop) (ins : A → List SV) (res : A → SV) : Sp := fun vs H Q _ => ∃ (a : A) (F : Hp) (fi : List (List Addr)), pre a ∧ vs.length = (ins a).length ∧ Pre F H (ens vs (ins a)) fi ∧
  ∀ v H', Core ⟨F, H, fi.flatten⟩ H' [(some v, res a)] → Q v H'
/-- the first argument is an object of one owner that the def may change -/
def spM (pre : A → Prop) (O : OTy κ) (s0 : A → κ) (ins : A → List SV) (s1 : A → κ) (res : A → SV) : Sp := fun vs H Q _ => ∃ (a : A) (F : Hp) (fi : List (List Addr)) (x : V) (ws : List V), pre a ∧ vs = x :: ws ∧ ws.length = (ins a).length ∧
  Pre F H ((some x, own x O (s0 a)) :: ens ws (ins a)) fi ∧ ∀ v H', Core ⟨F, H, fi.flatten⟩ H' [(some v, res a), (some x, own x O (s1 a))] → Q v H'
theorem fr_ens : ∀ {vs : List V} {Rs : List SV}, (∀ s ∈ Rs, Fr s) → ∀ e ∈ ens vs Rs, Fr e.2
  | [], _, _, e, h => by cases h
  | _ :: _, [], _, e, h => by cases h
  | v :: vs, R :: Rs, hf, e, h => by
    rcases List.mem_cons.mp h with rfl | h
    · exact hf R List.mem_cons_self
    · exact fr_ens (fun s hs => hf s (List.mem_cons_of_mem _ hs)) e h
theorem ev_call {pre : A → Prop} {ins : A → List SV} {res : A → SV} (a : A) (h : EvA B ρ as (ins a) ρ1) (hp : pre a) (hf : ∀ s ∈ ins a, Fr s) : EvE B ρ (tCl (spF pre ins res) as) (res a) ρ1 := fun H σ τ Q st q =>
  h H σ τ _ st fun vs H1 hl st1 => by
    have c := st1.core
    rw [List.append_assoc] at c
    obtain ⟨F, fi, p, k⟩ := c.frame (fr_ens hf)
    exact ⟨a, F, fi, hp, hl, p, fun v H' d => q v H' ⟨st1.len, k H' _ d⟩⟩
/-- a call whose first argument is a name that owns -/
theorem ev_callM {pre : A → Prop} {O : OTy κ} {s0 s1 : A → κ} {ins : A → List SV} {res : A → SV} {x : V} {k0 : κ} (a : A) (h0 : ρ[i]? = some (own x O k0)) (h : EvA B ρ as (ins a) ρ1) (h1 : ρ1[i]? = some (own x O (s0 a))) (hp : pre a)
    (hf : ∀ s ∈ ins a, Fr s) : EvE B ρ (tCl (spM pre O s0 ins s1 res) (tCons (tVar i) as)) (res a) (ρ1.set i (own x O (s1 a))) := fun H σ τ Q st q =>
  ev_varO h0 H σ τ _ st fun v H0 st0 => h H0 σ _ _ st0 fun ws H1 hl st1 => by
    have c := st1.core
    obtain ⟨v', hv, l, p1, p2, _⟩ := zip_perm st1.len h1
    have c0 : Core B H1 ((some v, isv x) :: (ens ws (ins a) ++ τ ++ σ.zip ρ1)) := c.perm (by
      have z : (ens ws (ins a) ++ ((some v, isv x) :: τ) ++ σ.zip ρ1).Perm ((some v, isv x) :: (ens ws (ins a) ++ τ ++ σ.zip ρ1)) := by
        rw [List.append_assoc, List.append_assoc]
        exact List.perm_middle
      exact z)
    have ev := c0.i1
    cases ev
    have c1 := c0.cut
    have pp : (ens ws (ins a) ++ τ ++ σ.zip ρ1).Perm (((v', own x O (s0 a)) :: ens ws (ins a)) ++ (τ ++ l)) := by
      rw [List.append_assoc]
      refine (List.Perm.append_left _ (perm_top τ p1)).trans ?_
      exact List.perm_middle
    have c2 := c1.perm pp
    obtain ⟨_, _, _, e', _⟩ := (show Core B H1 ((v', own x O (s0 a)) :: (ens ws (ins a) ++ (τ ++ l))) from c2).o1
    subst e'
    obtain ⟨F, fi, p, k⟩ := c2.frame (fun e he => by
      rcases List.mem_cons.mp he with rfl | he
      · exact fr_own
      · exact fr_ens hf e he)
    refine ⟨a, F, fi, x, ws, hp, rfl, hl, p, fun w H' d => q w H' ⟨by rw [List.length_set]; exact st1.len, ?_⟩⟩
    have c3 := k H' _ d
    have p3 : ((some w, res a) :: τ ++ σ.zip (ρ1.set i (own x O (s1 a)))).Perm ([(some w, res a), (some x, own x O (s1 a))] ++ (τ ++ l)) := (perm_top ((some w, res a) :: τ) (p2 (own x O (s1 a)))).trans (.swap _ _ _)
    exact c3.perm p3.symm
/-- the state in which a body begins -/
theorem core_start {vs : List V} {Rs : List SV} (h : Core B H (ens vs Rs)) (hl : vs.length = Rs.length) (n : Nat) : St B H (vs.map some ++ List.replicate n none) (Rs ++ List.replicate n any) [] := by
  refine ⟨by simp [hl], ?_⟩
  show Core B H ((vs.map some ++ List.replicate n none).zip (Rs ++ List.replicate n any))
  rw [List.zip_append (by simp [hl])]
  have z : ∀ n, Core B H ((List.replicate n (none : Option V)).zip (List.replicate n any) ++ ens vs Rs) := by
    intro n
    induction n with
    | zero => exact h
    | succ n ih => exact ih.add fun _ _ _ => rfl
  exact (z n).perm List.perm_append_comm
theorem body_F {pre : A → Prop} {ins : A → List SV} {res : A → SV} {t : TS} {N : List Str} {vs : List V} {H : Hp} {Q : VK} {E : XK} (hs : spF pre ins res vs H Q E)
    (hb : ∀ (a : A) (B : Bas), pre a → ExS B (ins a ++ List.replicate (N.length - (ins a).length) any) t { nx := fun _ => res a = dat tNon (), rt := fun R _ => R = res a }) :
    t { nx := fun _ H' => Q .non H', rt := Q } (L2.start N vs) H := by
  obtain ⟨a, F, fi, hp, hl, p, k⟩ := hs
  have st := core_start p.core hl (N.length - (ins a).length)
  have e : L2.start N vs = vs.map some ++ List.replicate (N.length - (ins a).length) none := by unfold L2.start; rw [hl]
  rw [e]
  refine hb a ⟨F, H, fi.flatten⟩ hp H _ [] _ st (fun ρ' H' σ' e' st' => ?_) (fun R ρ' v H' σ' e' st' => ?_) (fun _ _ _ z => z.elim) (fun _ _ _ z => z.elim)
  · exact k .non H' (by rw [e']; exact (st'.core.sc sc_non).one)
  · subst e'
    exact k v H' st'.core.one
theorem body_M {pre : A → Prop} {O : OTy κ} {s0 s1 : A → κ} {ins : A → List SV} {res : A → SV} {t : TS} {N : List Str} {vs : List V} {H : Hp} {Q : VK} {E : XK} (hs : spM pre O s0 ins s1 res vs H Q E)
    (hb : ∀ (a : A) (B : Bas) (x : V), pre a → ExS B (own x O (s0 a) :: (ins a ++ List.replicate (N.length - ((ins a).length + 1)) any)) t { nx := fun ρ' => res a = dat tNon () ∧ ρ'[0]? = some (own x O (s1 a)), rt := fun R ρ' => R = res a ∧ ρ'[0]? = some (own x O (s1 a)) }) :
    t { nx := fun _ H' => Q .non H', rt := Q } (L2.start N vs) H := by
  obtain ⟨a, F, fi, x, ws, hp, rfl, hl, p, k⟩ := hs
  have st := core_start (vs := x :: ws) (Rs := own x O (s0 a) :: ins a) p.core (by simp [hl]) (N.length - ((ins a).length + 1))
  have e : L2.start N (x :: ws) = (x :: ws).map some ++ List.replicate (N.length - ((ins a).length + 1)) none := by unfold L2.start; rw [List.length_cons, hl]
  rw [e]
  have fin : ∀ (R : SV) (ρ' : List SV) (v : V) (H' : Hp) (σ' : L2.St), ρ'[0]? = some (own x O (s1 a)) → St ⟨F, H, fi.flatten⟩ H' σ' ρ' [(some v, R)] → Core ⟨F, H, fi.flatten⟩ H' [(some v, R), (some x, own x O (s1 a))] := by
    intro R ρ' v H' σ' h0 st'
    obtain ⟨v', _, l, p1, _, _⟩ := zip_perm st'.len h0
    have c := st'.core.perm (perm_top [(some v, R)] p1)
    obtain ⟨_, _, _, e1, _⟩ := c.o1
    subst e1
    exact (show Core ⟨F, H, fi.flatten⟩ H' ([(some v, R), (some x, own x O (s1 a))] ++ l) from c.swap).left
  refine hb a ⟨F, H, fi.flatten⟩ x hp H _ [] _ st (fun ρ' H' σ' e' st' => ?_) (fun R ρ' v H' σ' e' st' => ?_) (fun _ _ _ z => z.elim) (fun _ _ _ z => z.elim)
  · exact k .non H' (by rw [e'.1]; exact fin _ _ _ _ _ e'.2 ⟨st'.len, st'.core.sc sc_non⟩)
  · obtain ⟨rfl, h0⟩ := e'
    exact k v H' (fin _ _ _ _ _ h0 st')
/-! ### loops -/
theorem pair_snoc {R : α → β → Prop} : ∀ {xs : List α} {ys : List β} {x : α} {y : β}, Paired R xs ys → R x y → Paired R (xs ++ [x]) (ys ++ [y])
  | _, _, _, _, .nil, h => .cons h .nil
  | _, _, _, _, .cons a r, h => .cons a (pair_snoc r h)
theorem pair_get {R : α → β → Prop} : ∀ {xs : List α} {ys : List β} {i : Nat} {x : α}, Paired R xs ys → xs[i]? = some x → ∃ y, ys[i]? = some y ∧ R x y
  | _, _, _, _, .nil, h => by simp at h
  | _, _, 0, _, .cons a r, h => by
    simp at h
    subst h
    exact ⟨_, rfl, a⟩
  | _, _, i + 1, _, .cons a r, h => by
    obtain ⟨y, h1, h2⟩ := pair_get (i := i) r (by simpa using h)
    exact ⟨y, by simpa using h1, h2⟩
theorem St.cut {e : En} (st : St B H σ ρ (e :: τ)) : St B H σ ρ τ := ⟨st.len, st.core.cut⟩
theorem St.cut2 {e f : En} (st : St B H σ ρ (e :: f :: τ)) : St B H σ ρ (e :: τ) := ⟨st.len, st.core.swap.cut⟩
def tRowAt (K : PySem.W.Frag) (T : Ty α) (p : Addr) (vs : List V) : Ty (List α) := ⟨fun F v xs => v = .ref p ∧ SqL K F p vs ∧ Paired (T.rep F) vs xs, fun m ⟨e, h, r⟩ => ⟨e, m.seq h, L2.Paired.mapP r fun _ _ z => T.mono m z⟩⟩
def tTupAt (K : PySem.W.Frag) (T : Ty α) (p : Addr) (vs : List V) : Ty (List α) := ⟨fun F v xs => v = .ref p ∧ SqT K F p vs ∧ Paired (T.rep F) vs xs, fun m ⟨e, h, r⟩ => ⟨e, same_t m h, L2.Paired.mapP r fun _ _ z => T.mono m z⟩⟩
theorem St.row {v : V} {xs : List α} (st : St B H σ ρ ((some v, dat (tRow K T) xs) :: τ)) : ∃ p vs, v = .ref p ∧ vs.length = xs.length ∧ SqL K H p vs ∧ St B H σ ρ ((some (.ref p), dat (tRowAt K T p vs) xs) :: τ) := by
  obtain ⟨F, fs, c⟩ := st.core
  cases fs with
  | nil => exact c.sl.elim
  | cons fp fs =>
    obtain ⟨h0, x0, e1, p, vs, e2, hp, hr⟩ := c.sl.1
    cases e1
    subst e2
    exact ⟨p, vs, rfl, hr.length, c.fh.seq hp, st.len, F, fp :: fs, c.fr, c.fh, c.kp, c.lv, c.nc, c.il, ⟨⟨h0, _, rfl, rfl, hp, hr⟩, c.sl.2⟩, c.nd, c.ow⟩
theorem St.tupl {v : V} {xs : List α} (st : St B H σ ρ ((some v, dat (tTupL K T) xs) :: τ)) : ∃ p vs, v = .ref p ∧ vs.length = xs.length ∧ SqT K H p vs ∧ St B H σ ρ ((some (.ref p), dat (tTupAt K T p vs) xs) :: τ) := by
  obtain ⟨F, fs, c⟩ := st.core
  cases fs with
  | nil => exact c.sl.elim
  | cons fp fs =>
    obtain ⟨h0, x0, e1, p, vs, e2, hp, hr⟩ := c.sl.1
    cases e1
    subst e2
    exact ⟨p, vs, rfl, hr.length, same_t c.fh hp, st.len, F, fp :: fs, c.fr, c.fh, c.kp, c.lv, c.nc, c.il, ⟨⟨h0, _, rfl, rfl, hp, hr⟩, c.sl.2⟩, c.nd, c.ow⟩
theorem Core.rowq {p : Addr} {vs : List V} {xs : List α} (c : Core B H ((some (.ref p), dat (tRowAt K T p vs) xs) :: L)) : SqL K H p vs := by
  obtain ⟨F, x, m, _, _, h, _⟩ := c.d1
  exact m.seq h
theorem Core.tupq {p : Addr} {vs : List V} {xs : List α} (c : Core B H ((some (.ref p), dat (tTupAt K T p vs) xs) :: L)) : SqT K H p vs := by
  obtain ⟨F, x, m, _, _, h, _⟩ := c.d1
  exact same_t m h
theorem Core.rowi {p : Addr} {vs : List V} {xs : List α} {y : V} (c : Core B H ((some (.ref p), dat (tRowAt K T p vs) xs) :: L)) (h : vs[i]? = some y) : ∃ x, xs[i]? = some x ∧ Core B H ((some y, dat T x) :: (some (.ref p), dat (tRowAt K T p vs) xs) :: L) := by
  obtain ⟨F, x, m, _, _, _, hr⟩ := c.d1
  obtain ⟨x, hx, _⟩ := pair_get hr h
  refine ⟨x, hx, c.add fun F fs c' => ?_⟩
  obtain ⟨fp, _, _, x', _, _, _, hr'⟩ := Sl.mem (e := (some (.ref p), dat (tRowAt K T p vs) xs)) c'.sl List.mem_cons_self
  obtain ⟨z, hz, q⟩ := pair_get hr' h
  rw [hx] at hz
  cases hz
  exact ⟨rfl, y, rfl, q⟩
theorem Core.tupi {p : Addr} {vs : List V} {xs : List α} {y : V} (c : Core B H ((some (.ref p), dat (tTupAt K T p vs) xs) :: L)) (h : vs[i]? = some y) : ∃ x, xs[i]? = some x ∧ Core B H ((some y, dat T x) :: (some (.ref p), dat (tTupAt K T p vs) xs) :: L) := by
  obtain ⟨F, x, m, _, _, _, hr⟩ := c.d1
  obtain ⟨x, hx, _⟩ := pair_get hr h
  refine ⟨x, hx, c.add fun F fs c' => ?_⟩
  obtain ⟨fp, _, _, x', _, _, _, hr'⟩ := Sl.mem (e := (some (.ref p), dat (tTupAt K T p vs) xs)) c'.sl List.mem_cons_self
  obtain ⟨z, hz, q⟩ := pair_get hr' h
  rw [hx] at hz
  cases hz
  exact ⟨rfl, y, rfl, q⟩
/-- for x in a list that stands -/
theorem ex_forL {tb : TS} {xs : List α} (h : EvE B ρ tl (dat (tRow K T) xs) ρ1) (Iv : Nat → List SV → Prop) (h0 : Iv 0 ρ1) (hj : ∀ i ρ, Iv i ρ → j < ρ.length)
    (hs : ∀ i x ρ, xs[i]? = some x → Iv i ρ → ExS B (ρ.set j (dat T x)) tb { N with nx := Iv (i + 1), ct := Iv (i + 1), bk := N.nx }) (hd : ∀ ρ, Iv xs.length ρ → N.nx ρ) : ExS B ρ (tFor (iList K tl) (gName j) tb) N := fun H σ τ D st k1 k2 k3 k4 =>
  h H σ τ _ st fun v H1 st1 => by
    obtain ⟨p, vs, rfl, hl, hq, st2⟩ := st1.row
    refine ⟨p, rfl, ⟨vs, hq⟩, for_list (K := K) (a := p) (xs := vs) (fun i σ' H' => ∃ ρ', Iv i ρ' ∧ St B H' σ' ρ' ((some (.ref p), dat (tRowAt K T p vs) xs) :: τ)) ⟨ρ1, h0, st2⟩ ?_ ?_ ?_⟩
    · rintro i σ' H' _ ⟨ρ', _, st'⟩
      exact st'.core.rowq
    · rintro i y σ' H' hy ⟨ρ', iv, st'⟩
      obtain ⟨x, hx, c⟩ := (show Core B H' ((some (.ref p), dat (tRowAt K T p vs) xs) :: (τ ++ σ'.zip ρ')) from st'.core).rowi hy
      exact hs i x ρ' hx iv H' _ ((some (.ref p), dat (tRowAt K T p vs) xs) :: τ) _ (St.asg ⟨st'.len, c⟩ (hj i ρ' iv)) (fun ρ2 H2 σ2 iv2 st2 => ⟨ρ2, iv2, st2⟩) (fun R ρ2 v H2 σ2 k st2 => k2 R ρ2 v H2 σ2 k st2.cut2) (fun ρ2 H2 σ2 k st2 => k1 ρ2 H2 σ2 k st2.cut) (fun ρ2 H2 σ2 iv2 st2 => ⟨ρ2, iv2, st2⟩)
    · rintro σ' H' ⟨ρ', iv, st'⟩
      rw [hl] at iv
      exact k1 ρ' H' σ' (hd ρ' iv) st'.cut
theorem ex_forT {tb : TS} {xs : List α} (h : EvE B ρ tl (dat (tTupL K T) xs) ρ1) (Iv : Nat → List SV → Prop) (h0 : Iv 0 ρ1) (hj : ∀ i ρ, Iv i ρ → j < ρ.length)
    (hs : ∀ i x ρ, xs[i]? = some x → Iv i ρ → ExS B (ρ.set j (dat T x)) tb { N with nx := Iv (i + 1), ct := Iv (i + 1), bk := N.nx }) (hd : ∀ ρ, Iv xs.length ρ → N.nx ρ) : ExS B ρ (tFor (iTup K tl) (gName j) tb) N := fun H σ τ D st k1 k2 k3 k4 =>
  h H σ τ _ st fun v H1 st1 => by
    obtain ⟨p, vs, rfl, hl, hq, st2⟩ := st1.tupl
    refine ⟨p, rfl, ⟨vs, hq⟩, for_tup (K := K) (a := p) (xs := vs) (fun i σ' H' => ∃ ρ', Iv i ρ' ∧ St B H' σ' ρ' ((some (.ref p), dat (tTupAt K T p vs) xs) :: τ)) ⟨ρ1, h0, st2⟩ ?_ ?_ ?_⟩
    · rintro i σ' H' _ ⟨ρ', _, st'⟩
      exact st'.core.tupq
    · rintro i y σ' H' hy ⟨ρ', iv, st'⟩
      obtain ⟨x, hx, c⟩ := (show Core B H' ((some (.ref p), dat (tTupAt K T p vs) xs) :: (τ ++ σ'.zip ρ')) from st'.core).tupi hy
      exact hs i x ρ' hx iv H' _ ((some (.ref p), dat (tTupAt K T p vs) xs) :: τ) _ (St.asg ⟨st'.len, c⟩ (hj i ρ' iv)) (fun ρ2 H2 σ2 iv2 st2 => ⟨ρ2, iv2, st2⟩) (fun R ρ2 v H2 σ2 k st2 => k2 R ρ2 v H2 σ2 k st2.cut2) (fun ρ2 H2 σ2 k st2 => k1 ρ2 H2 σ2 k st2.cut) (fun ρ2 H2 σ2 iv2 st2 => ⟨ρ2, iv2, st2⟩)
    · rintro σ' H' ⟨ρ', iv, st'⟩
      rw [hl] at iv
      exact k1 ρ' H' σ' (hd ρ' iv) st'.cut
/-- for k in range(n) -/
theorem ex_forR {tb : TS} {n : Int} (h : EvA B ρ as [dat tInt n] ρ1) (hn : -(2 ^ 62) ≤ n ∧ n < 2 ^ 62) (Iv : Nat → List SV → Prop) (h0 : Iv 0 ρ1) (hj : ∀ i ρ, Iv i ρ → j < ρ.length)
    (hs : ∀ (i : Nat) ρ, i < n.toNat → Iv i ρ → ExS B (ρ.set j (dat tInt (i : Int))) tb { N with nx := Iv (i + 1), ct := Iv (i + 1), bk := N.nx }) (hd : ∀ ρ, Iv n.toNat ρ → N.nx ρ) : ExS B ρ (tFor (iRng1 as) (gName j) tb) N := fun H σ τ D st k1 k2 k3 k4 =>
  h H σ τ _ st fun vs H1 hl st1 => by
    match vs, hl, st1 with
    | [v], _, st1 =>
      obtain ⟨F, x, _, e1, e2⟩ := (show Core B H1 ((some v, dat tInt n) :: (τ ++ σ.zip ρ1)) from st1.core).d1
      cases e1
      cases e2
      refine ⟨n, rfl, hn.1, hn.2, for_range (lo := 0) (n := n.toNat) (fun i σ' H' => ∃ ρ', Iv i ρ' ∧ St B H' σ' ρ' τ) ⟨ρ1, h0, St.cut st1⟩ ?_ ?_⟩
      · rintro i σ' H' hi ⟨ρ', iv, st'⟩
        have c : Core B H' ((some (.int (0 + (i : Int))), dat tInt (i : Int)) :: (τ ++ σ'.zip ρ')) := st'.core.sc (fun F => by show V.int (0 + (i : Int)) = V.int (i : Int); rw [Int.zero_add])
        exact hs i ρ' hi iv H' _ τ _ (St.asg ⟨st'.len, c⟩ (hj i ρ' iv)) (fun ρ2 H2 σ2 iv2 st2 => ⟨ρ2, iv2, st2⟩) (fun R ρ2 v H2 σ2 k st2 => k2 R ρ2 v H2 σ2 k st2) (fun ρ2 H2 σ2 k st2 => k1 ρ2 H2 σ2 k st2) (fun ρ2 H2 σ2 iv2 st2 => ⟨ρ2, iv2, st2⟩)
      · rintro σ' H' ⟨ρ', iv, st'⟩
        exact k1 ρ' H' σ' (hd ρ' iv) st'
theorem EvE.row {xs : List α} (h : EvE B ρ te (dat (tList T) xs) ρ') : EvE B ρ te (dat (tRow K T) xs) ρ' := h.as fun F x ⟨p, vs, e, h, r⟩ => ⟨p, vs, e, .inl (.inl h), r⟩
/-! ### comprehensions -/
def accL (f : Nat → Bool) (y : Nat → β) : Nat → List β
  | 0 => []
  | i + 1 => if f i = true then accL f y i ++ [y i] else accL f y i
theorem accL_len (f : Nat → Bool) (y : Nat → β) : ∀ i, (accL f y i).length ≤ i
  | 0 => Nat.le_refl _
  | i + 1 => by
    have := accL_len f y i
    unfold accL
    split
    · rw [List.length_append, List.length_singleton]; omega
    · omega
theorem wipe1 (σ : L2.St) (j : Nat) (x : Option V) : wipe ((wipe σ [j]).set j x) [j] = wipe σ [j] := by
  show ((σ.set j none).set j x).set j none = σ.set j none
  rw [List.set_set, List.set_set]
/-- a turn of a comprehension whose own name stands in slot j -/
theorem lc_turn {Sj : SV} {e0 : En} {I I' : List SV} {ρm : List SV} {S' : SV} {D : Addr} {acc : List β} {v : V} {k : Bool} {y : β} {G : Hp → Prop} (hl : σ.length = I.length) (hl' : I'.length = I.length) (h1 : I[j]? = some Sj) (h2 : I'[j]? = some Sj) (hz : acc.length < sizeLine)
    (st : Core B H ((some v, dat T a) :: (some (.ref D), own (.ref D) (oList U) acc) :: e0 :: (τ ++ σ.zip I)))
    (ht : EvT B (I.set j (dat T a)) tt k ρm) (he : k = true → EvE B ρm te (dat U y) (I'.set j S')) (hm : k = false → ρm = I'.set j S')
    (hG : ∀ H', Core B H' ((some (.ref D), own (.ref D) (oList U) (if k = true then acc ++ [y] else acc)) :: e0 :: (τ ++ σ.zip I')) → G H') :
    gName j v (wipe σ [j]) H fun σ2 H2 => wipe σ2 [j] = wipe σ [j] ∧ tt σ2 H2 fun b H3 => if b = true then te σ2 H3 fun y H4 => ∃ acc, H4 D = some (.lst acc) ∧ acc.length < sizeLine ∧ G (upd H4 D (.lst (acc ++ [y]))) else G H3 := by
  have hji : j < I.length := (List.getElem?_eq_some_iff.mp h1).1
  obtain ⟨vj, e1, l, p1, p2, p3⟩ := zip_perm hl h1
  obtain ⟨vj', e1', l', p1', p2', p3'⟩ := zip_perm (hl.trans hl'.symm) h2
  rw [e1] at e1'
  cases e1'
  show wipe ((wipe σ [j]).set j (some v)) [j] = wipe σ [j] ∧ _
  refine ⟨wipe1 σ j (some v), ?_⟩
  have es : (wipe σ [j]).set j (some v) = σ.set j (some v) := by
    show (σ.set j none).set j (some v) = _
    rw [List.set_set]
  have base : St B H ((wipe σ [j]).set j (some v)) (I.set j (dat T a)) ((vj, Sj) :: (some (.ref D), own (.ref D) (oList U) acc) :: e0 :: τ) := by
    rw [es]
    refine ⟨by rw [List.length_set, List.length_set]; exact hl, ?_⟩
    have q1 : ((some v, dat T a) :: (some (.ref D), own (.ref D) (oList U) acc) :: e0 :: (τ ++ σ.zip I)).Perm ((some v, dat T a) :: (vj, Sj) :: (some (.ref D), own (.ref D) (oList U) acc) :: e0 :: (τ ++ l)) :=
      (perm_top ((some (.ref D), own (.ref D) (oList U) acc) :: e0 :: τ) p1).cons _
    have q2 : (((vj, Sj) :: (some (.ref D), own (.ref D) (oList U) acc) :: e0 :: τ) ++ (σ.set j (some v)).zip (I.set j (dat T a))).Perm ((some v, dat T a) :: (vj, Sj) :: (some (.ref D), own (.ref D) (oList U) acc) :: e0 :: (τ ++ l)) := perm_top _ (p3 _ _)
    exact st.perm (q1.trans q2.symm)
  have back : ∀ {H' : Hp} {E : En} {acc' : List β}, Core B H' (E :: (((vj, Sj) :: (some (.ref D), own (.ref D) (oList U) acc') :: e0 :: τ) ++ ((wipe σ [j]).set j (some v)).zip (I'.set j S'))) → Core B H' (E :: (some (.ref D), own (.ref D) (oList U) acc') :: e0 :: (τ ++ σ.zip I')) := by
    intro H' E acc' c
    rw [es] at c
    have q2 : (E :: (((vj, Sj) :: (some (.ref D), own (.ref D) (oList U) acc') :: e0 :: τ) ++ (σ.set j (some v)).zip (I'.set j S'))).Perm ((some v, S') :: E :: (vj, Sj) :: (some (.ref D), own (.ref D) (oList U) acc') :: e0 :: (τ ++ l')) := perm_top (E :: (vj, Sj) :: (some (.ref D), own (.ref D) (oList U) acc') :: e0 :: τ) (p3' _ _)
    have c2 := (c.perm q2).cut
    have q3 : (E :: (some (.ref D), own (.ref D) (oList U) acc') :: e0 :: (τ ++ σ.zip I')).Perm (E :: (vj, Sj) :: (some (.ref D), own (.ref D) (oList U) acc') :: e0 :: (τ ++ l')) := (perm_top ((some (.ref D), own (.ref D) (oList U) acc') :: e0 :: τ) p1').cons E
    exact c2.perm q3.symm
  refine ht H _ _ _ base fun H3 st3 => ?_
  cases k with
  | false =>
    show G H3
    refine hG H3 ?_
    have c := st3.core
    rw [hm rfl] at c
    exact (back (c.add (e := (none, any)) fun _ _ _ => rfl)).cut
  | true =>
    show te _ H3 _
    refine he rfl H3 _ _ _ st3 fun w H4 st4 => ?_
    have c := back (acc' := acc) st4.core
    obtain ⟨F, fp, m, _, p, vs, e2, e3, e4, e5⟩ := c.swap.o1
    cases e2
    have hlen : vs.length = acc.length := e5.length
    refine ⟨vs, e4, by rw [hlen]; exact hz, hG _ ?_⟩
    have c2 : Core B H4 ((some (.ref D), own (.ref D) (oList U) acc) :: (some w, dat U y) :: e0 :: (τ ++ σ.zip I')) := c.swap
    obtain ⟨F, fs, cc⟩ := id c2
    match fs, cc with
    | [], cc => exact cc.sl.elim
    | [_], cc => exact cc.sl.2.elim
    | fp :: fq :: fs, cc =>
      obtain ⟨⟨_, p', vs', f1, f2, f3, f4⟩, ⟨_, w', g1, g2⟩, _⟩ := cc.sl
      cases f1
      cases g1
      rw [e4] at f3
      cases f3
      have c3 : Core B (upd H4 D (.lst (vs ++ [w]))) ((some (.ref D), own (.ref D) (oList U) (acc ++ [y])) :: (some w, dat U y) :: e0 :: (τ ++ σ.zip I')) := by
        have n1 := cc.nd
        have ow := cc.ow
        subst f2
        refine ⟨F, [D] :: fq :: fs, ?_⟩
        have wr : Core B (upd H4 D (.lst (vs ++ [w]))) ((some (.ref D), own (.ref D) (oList U) (acc ++ [y])) :: (some w, dat U y) :: e0 :: (τ ++ σ.zip I')) ∨ True := .inr trivial
        have mem : D ∈ ([D] :: fq :: fs).flatten := by rw [List.flatten_cons]; exact List.mem_append_left _ List.mem_cons_self
        obtain ⟨f0, ⟨u0, hu0⟩, w0⟩ := ow D mem
        rw [List.flatten_cons] at n1
        obtain ⟨m1, m2, m3⟩ := List.nodup_append.mp n1
        have some' : ∀ x u, H4 x = some u → ∃ u', upd H4 D (.lst (vs ++ [w])) x = some u' := fun x u e => by
          by_cases hx : x = D
          · exact ⟨_, by rw [hx]; exact upd_same⟩
          · exact ⟨u, by rw [upd_ne hx]; exact e⟩
        refine ⟨cc.fr, fun x u e => ?_, fun x u e n => ?_, fun x u e => ?_, cc.nc, cc.il, ⟨⟨rfl, D, vs ++ [w], rfl, rfl, upd_same, pair_snoc f4 g2⟩, cc.sl.2.stab (Same.refl _) fun q hq => ?_⟩, cc.nd, fun q hq => ?_⟩
        · rw [upd_ne (ne_of_none e f0)]; exact cc.fh x u e
        · have hx : x ≠ D := fun z => by
            rcases w0 with h | h
            · exact n (z ▸ h)
            · rw [z, h] at e; cases e
          rw [upd_ne hx]; exact cc.kp x u e n
        · obtain ⟨u', e'⟩ := cc.lv x u e
          exact some' x u' e'
        · exact upd_ne fun z => m3 D List.mem_cons_self q hq z.symm
        · obtain ⟨h1, ⟨u, hu⟩, h3⟩ := cc.ow q hq
          exact ⟨h1, some' q u hu, h3⟩
      exact c3.swap.cut
end
end Sw
/-! text Sw5 -/
set_option maxHeartbeats 4000000
namespace Sw
open PySem L2
variable {α β γ δ κ : Type}
section
variable {B : Bas} {H H' : Hp} {σ : L2.St} {ρ ρ1 ρ2 ρ3 ρ' : List SV} {τ : List En} {L L1 L2' : List En} {R S1 S2 S : SV} {ta tb te tl td tk tv : TE} {tt tu : TT} {as : TA} {a : α} {b : β} {c : γ} {T : Ty α} {U : Ty β} {W : Ty γ} {i j : Nat} {K : PySem.W.Frag} {N : Kn} {A : Type}
theorem accL_succ {f : Nat → Bool} {y : Nat → β} {i : Nat} : accL f y (i + 1) = if f i = true then accL f y i ++ [y i] else accL f y i := rfl
/-- [elt for x in a list], the state I i ahead of the turn i -/
theorem fr_lcL {xs : List α} (I : Nat → List SV) {Sj : SV} (f : Nat → Bool) (y : Nat → β) (ρm : Nat → List SV) (S' : Nat → SV) (h : EvE B ρ tl (dat (tRow K T) xs) (I 0)) (hlen : ∀ i, (I i).length = (I 0).length) (hj : ∀ i, (I i)[j]? = some Sj) (hz : xs.length ≤ 1000000)
    (ht : ∀ i x, xs[i]? = some x → EvT B ((I i).set j (dat T x)) tt (f i) (ρm i)) (he : ∀ i x, xs[i]? = some x → f i = true → EvE B (ρm i) te (dat U (y i)) ((I (i + 1)).set j (S' i))) (hm : ∀ i, f i = false → ρm i = (I (i + 1)).set j (S' i)) :
    EvE B ρ (tLc (iList K tl) (gName j) tt te [j]) (fre (oList U) (accL f y xs.length)) (I xs.length) := fun H σ τ Q st q =>
  h H σ τ _ st fun v H1 st1 => by
    obtain ⟨p, vs, rfl, hl, hq, st2⟩ := st1.row
    have hσ : ∀ i, σ.length = (I i).length := fun i => st1.len.trans (hlen i).symm
    refine ⟨p, rfl, ⟨vs, hq⟩, fun D hD => lc_list (K := K) (a := p) (xs := vs) (fun i H' => Core B H' ((some (.ref D), own (.ref D) (oList U) (accL f y i)) :: (some (.ref p), dat (tRowAt K T p vs) xs) :: (τ ++ σ.zip (I i))) ∧ D ∉ B.io) ?_ ?_ ?_ ?_⟩
    · have c : Core B H1 ((some (.ref p), dat (tRowAt K T p vs) xs) :: (τ ++ σ.zip (I 0))) := st2.core
      obtain ⟨F, fs, cc⟩ := id c
      exact ⟨c.allocO (o := .lst []) (s := own (.ref D) (oList U) (accL f y 0)) hD fun F _ _ => ⟨rfl, D, [], rfl, rfl, upd_same, .nil⟩, cc.noio hD⟩
    · rintro i H' _ ⟨c, _⟩
      exact c.cut.rowq
    · rintro i w H' hw ⟨c, hn⟩
      obtain ⟨x, hx, c2⟩ := (c.swap).rowi hw
      have hi : i < xs.length := (List.getElem?_eq_some_iff.mp hx).1
      have c3 : Core B H' ((some w, dat T x) :: (some (.ref D), own (.ref D) (oList U) (accL f y i)) :: (some (.ref p), dat (tRowAt K T p vs) xs) :: (τ ++ σ.zip (I i))) := c2.perm ((List.Perm.swap _ _ _).cons _)
      refine lc_turn (Sj := Sj) (I := I i) (I' := I (i + 1)) (ρm := ρm i) (S' := S' i) (k := f i) (y := y i) (hσ i) ((hlen _).trans (hlen _).symm) (hj i) (hj (i + 1)) (Nat.lt_of_le_of_lt (accL_len f y i) (Nat.lt_of_lt_of_le hi (Nat.le_trans hz (by decide)))) c3 (ht i x hx) (he i x hx) (hm i) fun H2 c4 => ⟨?_, hn⟩
      rw [accL_succ]
      exact c4
    · rintro H' ⟨c, hn⟩
      rw [hl] at c
      refine q _ H' ⟨hσ _, ?_⟩
      have c2 : Core B H' ((some (.ref D), own (.ref D) (oList U) (accL f y xs.length)) :: (τ ++ σ.zip (I xs.length))) := c.swap.cut
      exact c2.weak fun F fp _ ⟨h1, h2⟩ => .inl ⟨.ref D, rfl, h2, fun q hq => by
        obtain ⟨p', _, h5, h6, _⟩ := h2
        cases h5
        rw [h6] at hq
        rw [List.mem_singleton.mp hq]
        exact hn⟩
theorem fr_lcT {xs : List α} (I : Nat → List SV) {Sj : SV} (f : Nat → Bool) (y : Nat → β) (ρm : Nat → List SV) (S' : Nat → SV) (h : EvE B ρ tl (dat (tTupL K T) xs) (I 0)) (hlen : ∀ i, (I i).length = (I 0).length) (hj : ∀ i, (I i)[j]? = some Sj) (hz : xs.length ≤ 1000000)
    (ht : ∀ i x, xs[i]? = some x → EvT B ((I i).set j (dat T x)) tt (f i) (ρm i)) (he : ∀ i x, xs[i]? = some x → f i = true → EvE B (ρm i) te (dat U (y i)) ((I (i + 1)).set j (S' i))) (hm : ∀ i, f i = false → ρm i = (I (i + 1)).set j (S' i)) :
    EvE B ρ (tLc (iTup K tl) (gName j) tt te [j]) (fre (oList U) (accL f y xs.length)) (I xs.length) := fun H σ τ Q st q =>
  h H σ τ _ st fun v H1 st1 => by
    obtain ⟨p, vs, rfl, hl, hq, st2⟩ := st1.tupl
    have hσ : ∀ i, σ.length = (I i).length := fun i => st1.len.trans (hlen i).symm
    refine ⟨p, rfl, ⟨vs, hq⟩, fun D hD => lc_tup (K := K) (a := p) (xs := vs) (fun i H' => Core B H' ((some (.ref D), own (.ref D) (oList U) (accL f y i)) :: (some (.ref p), dat (tTupAt K T p vs) xs) :: (τ ++ σ.zip (I i))) ∧ D ∉ B.io) ?_ ?_ ?_ ?_⟩
    · have c : Core B H1 ((some (.ref p), dat (tTupAt K T p vs) xs) :: (τ ++ σ.zip (I 0))) := st2.core
      obtain ⟨F, fs, cc⟩ := id c
      exact ⟨c.allocO (o := .lst []) (s := own (.ref D) (oList U) (accL f y 0)) hD fun F _ _ => ⟨rfl, D, [], rfl, rfl, upd_same, .nil⟩, cc.noio hD⟩
    · rintro i H' _ ⟨c, _⟩
      exact c.cut.tupq
    · rintro i w H' hw ⟨c, hn⟩
      obtain ⟨x, hx, c2⟩ := (c.swap).tupi hw
      have hi : i < xs.length := (List.getElem?_eq_some_iff.mp hx).1
      have c3 : Core B H' ((some w, dat T x) :: (some (.ref D), own (.ref D) (oList U) (accL f y i)) :: (some (.ref p), dat (tTupAt K T p vs) xs) :: (τ ++ σ.zip (I i))) := c2.perm ((List.Perm.swap _ _ _).cons _)
      refine lc_turn (Sj := Sj) (I := I i) (I' := I (i + 1)) (ρm := ρm i) (S' := S' i) (k := f i) (y := y i) (hσ i) ((hlen _).trans (hlen _).symm) (hj i) (hj (i + 1)) (Nat.lt_of_le_of_lt (accL_len f y i) (Nat.lt_of_lt_of_le hi (Nat.le_trans hz (by decide)))) c3 (ht i x hx) (he i x hx) (hm i) fun H2 c4 => ⟨?_, hn⟩
      rw [accL_succ]
      exact c4
    · rintro H' ⟨c, hn⟩
      rw [hl] at c
      refine q _ H' ⟨hσ _, ?_⟩
      have c2 : Core B H' ((some (.ref D), own (.ref D) (oList U) (accL f y xs.length)) :: (τ ++ σ.zip (I xs.length))) := c.swap.cut
      exact c2.weak fun F fp _ ⟨h1, h2⟩ => .inl ⟨.ref D, rfl, h2, fun q hq => by
        obtain ⟨p', _, h5, h6, _⟩ := h2
        cases h5
        rw [h6] at hq
        rw [List.mem_singleton.mp hq]
        exact hn⟩
theorem fr_lcR {n : Int} (I : Nat → List SV) {Sj : SV} (f : Nat → Bool) (y : Nat → β) (ρm : Nat → List SV) (S' : Nat → SV) (h : EvA B ρ as [dat tInt n] (I 0)) (hlen : ∀ i, (I i).length = (I 0).length) (hj : ∀ i, (I i)[j]? = some Sj) (hz : -(2 ^ 62) ≤ n ∧ n ≤ 1000000)
    (ht : ∀ i : Nat, i < n.toNat → EvT B ((I i).set j (dat tInt (i : Int))) tt (f i) (ρm i)) (he : ∀ i : Nat, i < n.toNat → f i = true → EvE B (ρm i) te (dat U (y i)) ((I (i + 1)).set j (S' i))) (hm : ∀ i, f i = false → ρm i = (I (i + 1)).set j (S' i)) :
    EvE B ρ (tLc (iRng1 as) (gName j) tt te [j]) (fre (oList U) (accL f y n.toNat)) (I n.toNat) := fun H σ τ Q st q =>
  h H σ τ _ st fun vs H1 hl0 st1 => by
    match vs, hl0, st1 with
    | [v], _, st1 =>
      obtain ⟨F, x, _, e1, e2⟩ := (show Core B H1 ((some v, dat tInt n) :: (τ ++ σ.zip (I 0))) from st1.core).d1
      cases e1
      cases e2
      have hσ : ∀ i, σ.length = (I i).length := fun i => st1.len.trans (hlen i).symm
      refine ⟨n, rfl, by omega, by omega, fun D hD => lc_range (lo := 0) (n := n.toNat) (fun i H' => Core B H' ((some (.ref D), own (.ref D) (oList U) (accL f y i)) :: (none, any) :: (τ ++ σ.zip (I i))) ∧ D ∉ B.io) ?_ ?_ ?_⟩
      · have c : Core B H1 ((none, any) :: (τ ++ σ.zip (I 0))) := (St.cut st1).core.add fun _ _ _ => rfl
        obtain ⟨F, fs, cc⟩ := id c
        exact ⟨c.allocO (o := .lst []) (s := own (.ref D) (oList U) (accL f y 0)) hD fun F _ _ => ⟨rfl, D, [], rfl, rfl, upd_same, .nil⟩, cc.noio hD⟩
      · rintro i H' hi ⟨c, hn⟩
        have c3 : Core B H' ((some (.int (0 + (i : Int))), dat tInt (i : Int)) :: (some (.ref D), own (.ref D) (oList U) (accL f y i)) :: (none, any) :: (τ ++ σ.zip (I i))) := c.sc (fun F => by show V.int (0 + (i : Int)) = V.int (i : Int); rw [Int.zero_add])
        refine lc_turn (Sj := Sj) (I := I i) (I' := I (i + 1)) (ρm := ρm i) (S' := S' i) (k := f i) (y := y i) (hσ i) ((hlen _).trans (hlen _).symm) (hj i) (hj (i + 1)) (Nat.lt_of_le_of_lt (Nat.le_trans (accL_len f y i) (show i ≤ 1000000 by omega)) (by decide)) c3 (ht i hi) (he i hi) (hm i) fun H2 c4 => ⟨?_, hn⟩
        rw [accL_succ]
        exact c4
      · rintro H' ⟨c, hn⟩
        refine q _ H' ⟨hσ _, ?_⟩
        have c2 : Core B H' ((some (.ref D), own (.ref D) (oList U) (accL f y n.toNat)) :: (τ ++ σ.zip (I n.toNat))) := c.swap.cut
        exact c2.weak fun F fp _ ⟨h1, h2⟩ => .inl ⟨.ref D, rfl, h2, fun q hq => by
          obtain ⟨p', _, h5, h6, _⟩ := h2
          cases h5
          rw [h6] at hq
          rw [List.mem_singleton.mp hq]
          exact hn⟩
/-- what a comprehension over a list makes, plainly -/
theorem accL_map (xs : List α) (p : α → Bool) (g : α → β) (d : β) : accL (fun i => (xs[i]?.map p).getD false) (fun i => (xs[i]?.map g).getD d) xs.length = (xs.filter p).map g := by
  have key : ∀ (ys zs : List α), xs = ys ++ zs → accL (fun i => (xs[i]?.map p).getD false) (fun i => (xs[i]?.map g).getD d) ys.length = (ys.filter p).map g := by
    intro ys
    induction ys using snocRec with
    | nil => intro zs _; rfl
    | snoc ys y ih =>
      intro zs e
      have e' : xs = ys ++ (y :: zs) := by rw [e, List.append_assoc]; rfl
      have h1 : xs[ys.length]? = some y := by rw [e', List.getElem?_append_right (Nat.le_refl _)]; simp
      rw [List.length_append, List.length_singleton]
      show (if (xs[ys.length]?.map p).getD false = true then _ ++ [(xs[ys.length]?.map g).getD d] else _) = _
      rw [ih _ e', h1, List.filter_append, List.map_append]
      show (if p y = true then _ else _) = _
      by_cases hp : p y = true
      · rw [if_pos hp, List.filter_cons, if_pos hp]; rfl
      · rw [if_neg hp, List.filter_cons, if_neg hp]; simp
  exact key xs [] (by simp)
where
  snocRec {motive : List α → Prop} (nil : motive []) (snoc : ∀ ys y, motive ys → motive (ys ++ [y])) (l : List α) : motive l := by
    have : ∀ (n : Nat) (l : List α), l.length = n → motive l := by
      intro n
      induction n with
      | zero => intro l h; rw [List.length_eq_zero_iff.mp h]; exact nil
      | succ n ih =>
        intro l h
        have hne : l ≠ [] := fun e => by rw [e] at h; cases h
        have e := List.dropLast_concat_getLast hne
        rw [← e]
        exact snoc _ _ (ih _ (by rw [List.length_dropLast, h]; rfl))
    exact this _ l rfl
end
end Sw
/-! text Sw6 -/
set_option maxHeartbeats 4000000
namespace Sw
open PySem L2
variable {α β γ δ κ : Type}
section
variable {B : Bas} {H H' : Hp} {σ : L2.St} {ρ ρ1 ρ2 ρ3 ρ' : List SV} {τ : List En} {L L1 L2' : List En} {R S1 S2 S : SV} {ta tb te tl td tk tv : TE} {tt tu : TT} {as : TA} {a : α} {b : β} {c : γ} {T : Ty α} {U : Ty β} {W : Ty γ} {i j : Nat} {K : PySem.W.Frag} {N : Kn} {A : Type}
theorem et_yes : EvT B ρ tYes true ρ := fun H σ τ Q st q => q H st
theorem pair_str {F : Hp} : ∀ {vs : List V} {xs : List Str}, Paired (tStr.rep F) vs xs → vs = xs.map V.str
  | _, _, .nil => rfl
  | _, _, .cons h r => by rw [show _ = V.str _ from h, pair_str r]; rfl
theorem pair_bl {F : Hp} : ∀ {vs : List V} {xs : List Bool}, Paired (tBl.rep F) vs xs → vs = xs.map V.bl
  | _, _, .nil => rfl
  | _, _, .cons h r => by rw [show _ = V.bl _ from h, pair_bl r]; rfl
theorem pair_int {F : Hp} : ∀ {vs : List V} {xs : List Int}, Paired (tInt.rep F) vs xs → vs = xs.map V.int
  | _, _, .nil => rfl
  | _, _, .cons h r => by rw [show _ = V.int _ from h, pair_int r]; rfl
/-! ### comprehensions whose turns leave the state as it is -/
theorem lc_pure {xs : List α} [Inhabited α] [Inhabited β] (p : α → Bool) (g : α → β) : accL (fun i => (xs[i]?.map p).getD false) (fun i => (xs[i]?.map g).getD default) xs.length = (xs.filter p).map g := accL_map xs p g default
theorem ev_lcL {xs : List α} [Inhabited α] [Inhabited β] (p : α → Bool) (g : α → β) (h : EvE B ρ tl (dat (tRow K T) xs) ρ) (hj : j < ρ.length) (hz : xs.length ≤ 1000000)
    (ht : ∀ x ∈ xs, EvT B (ρ.set j (dat T x)) tt (p x) (ρ.set j (dat T x))) (he : ∀ x ∈ xs, p x = true → EvE B (ρ.set j (dat T x)) te (dat U (g x)) (ρ.set j (dat T x))) :
    EvE B ρ (tLc (iList K tl) (gName j) tt te [j]) (fre (oList U) ((xs.filter p).map g)) ρ := by
  rw [← lc_pure p g]
  refine fr_lcL (I := fun _ => ρ) (Sj := ρ[j]) _ _ (fun i => ρ.set j (dat T (xs[i]?.getD default))) (fun i => dat T (xs[i]?.getD default)) h (fun _ => rfl) (fun _ => List.getElem?_eq_getElem hj) hz (fun i x e => ?_) (fun i x e k => ?_) (fun i e => rfl)
  · rw [e]
    exact ht x (List.mem_of_getElem? e)
  · rw [e] at k ⊢
    exact he x (List.mem_of_getElem? e) k
theorem ev_lcT {xs : List α} [Inhabited α] [Inhabited β] (p : α → Bool) (g : α → β) (h : EvE B ρ tl (dat (tTupL K T) xs) ρ) (hj : j < ρ.length) (hz : xs.length ≤ 1000000)
    (ht : ∀ x ∈ xs, EvT B (ρ.set j (dat T x)) tt (p x) (ρ.set j (dat T x))) (he : ∀ x ∈ xs, p x = true → EvE B (ρ.set j (dat T x)) te (dat U (g x)) (ρ.set j (dat T x))) :
    EvE B ρ (tLc (iTup K tl) (gName j) tt te [j]) (fre (oList U) ((xs.filter p).map g)) ρ := by
  rw [← lc_pure p g]
  refine fr_lcT (I := fun _ => ρ) (Sj := ρ[j]) _ _ (fun i => ρ.set j (dat T (xs[i]?.getD default))) (fun i => dat T (xs[i]?.getD default)) h (fun _ => rfl) (fun _ => List.getElem?_eq_getElem hj) hz (fun i x e => ?_) (fun i x e k => ?_) (fun i e => rfl)
  · rw [e]
    exact ht x (List.mem_of_getElem? e)
  · rw [e] at k ⊢
    exact he x (List.mem_of_getElem? e) k
theorem ev_lcR {n : Int} [Inhabited β] (p : Nat → Bool) (g : Nat → β) (h : EvA B ρ as [dat tInt n] ρ) (hj : j < ρ.length) (hz : -(2 ^ 62) ≤ n ∧ n ≤ 1000000)
    (ht : ∀ x : Nat, x < n.toNat → EvT B (ρ.set j (dat tInt (x : Int))) tt (p x) (ρ.set j (dat tInt (x : Int)))) (he : ∀ x : Nat, x < n.toNat → p x = true → EvE B (ρ.set j (dat tInt (x : Int))) te (dat U (g x)) (ρ.set j (dat tInt (x : Int)))) :
    EvE B ρ (tLc (iRng1 as) (gName j) tt te [j]) (fre (oList U) (((List.range n.toNat).filter p).map g)) ρ := by
  have e0 := lc_pure (xs := List.range n.toNat) p g
  rw [List.length_range] at e0
  rw [← e0]
  have get : ∀ i, i < n.toNat → (List.range n.toNat)[i]? = some i := fun i hi => by rw [List.getElem?_range hi]
  refine fr_lcR (I := fun _ => ρ) (Sj := ρ[j]) _ _ (fun i => ρ.set j (dat tInt (i : Int))) (fun i => dat tInt (i : Int)) h (fun _ => rfl) (fun _ => List.getElem?_eq_getElem hj) hz (fun i hi => ?_) (fun i hi k => ?_) (fun i e => rfl)
  · rw [get i hi]
    exact ht i hi
  · rw [get i hi] at k ⊢
    exact he i hi k
/-! ### lists -/
theorem Core.d1m {v : Option V} (c : Core B H ((v, dat T a) :: L)) : ∃ F x, Same F H ∧ v = some x ∧ T.rep F x a ∧ ∀ (T' : Ty β) (b : β) (y : V), (∀ F, T.rep F x a → T'.rep F y b) → Core B H ((some y, dat T' b) :: L) := by
  obtain ⟨F, x, m, h1, h2⟩ := c.d1
  subst h1
  refine ⟨F, x, m, rfl, h2, fun T' b y k => ?_⟩
  obtain ⟨F, fs, c⟩ := c
  cases fs with
  | nil => exact c.sl.elim
  | cons fp fs =>
    obtain ⟨h0, x', e1, h3⟩ := c.sl.1
    cases e1
    exact ⟨F, fp :: fs, c.fr, c.fh, c.kp, c.lv, c.nc, c.il, ⟨⟨h0, y, rfl, k F h3⟩, c.sl.2⟩, c.nd, c.ow⟩
theorem atI_pair {R : V → α → Prop} {vs : List V} {xs : List α} (h : Paired R vs xs) {k : Int} {x : α} (e : atI xs k = some x) : ∃ y, atI vs k = some y ∧ R y x := by
  unfold atI at e ⊢
  rw [h.length]
  cases q : ixN xs.length k with
  | none => rw [q] at e; cases e
  | some j =>
    rw [q] at e
    have : ∀ {vs : List V} {xs : List α} {j : Nat}, Paired R vs xs → xs[j]? = some x → ∃ y, vs[j]? = some y ∧ R y x := by
      intro vs xs j h e
      induction h generalizing j with
      | nil => simp at e
      | cons a r ih =>
        cases j with
        | zero => simp at e; subst e; exact ⟨_, rfl, a⟩
        | succ j => obtain ⟨y, h1, h2⟩ := ih (by simpa using e); exact ⟨y, by simpa using h1, h2⟩
    exact this h e
theorem ev_ixL {xs : List α} {k : Int} (ha : EvE B ρ ta (dat (tRow K T) xs) ρ1) (hb : EvE B ρ1 tb (dat tInt k) ρ2) (hk : atI xs k = some a) : EvE B ρ (tOp (rIxL K) ta tb) (dat T a) ρ2 :=
  ev_op ha hb fun H x y L Q c q => by
    obtain ⟨F, y', _, e1, e2⟩ := c.d1
    cases e1; cases e2
    obtain ⟨F, fs, c2⟩ := c.cut
    cases fs with
    | nil => exact c2.sl.elim
    | cons fp fs =>
      obtain ⟨h0, x', e1, p, vs, e2, hp, hr⟩ := c2.sl.1
      cases e1
      obtain ⟨w, hw, hw2⟩ := atI_pair hr hk
      exact ⟨p, vs, k, w, e2, rfl, c2.fh.seq hp, hw, q w H ⟨F, fp :: fs, c2.fr, c2.fh, c2.kp, c2.lv, c2.nc, c2.il, ⟨⟨h0, w, rfl, hw2⟩, c2.sl.2⟩, c2.nd, c2.ow⟩⟩
theorem ev_ixT {xs : List α} {k : Int} (ha : EvE B ρ ta (dat (tTupL K T) xs) ρ1) (hb : EvE B ρ1 tb (dat tInt k) ρ2) (hk : atI xs k = some a) : EvE B ρ (tOp (rIxT K) ta tb) (dat T a) ρ2 :=
  ev_op ha hb fun H x y L Q c q => by
    obtain ⟨F, y', _, e1, e2⟩ := c.d1
    cases e1; cases e2
    obtain ⟨F, fs, c2⟩ := c.cut
    cases fs with
    | nil => exact c2.sl.elim
    | cons fp fs =>
      obtain ⟨h0, x', e1, p, vs, e2, hp, hr⟩ := c2.sl.1
      cases e1
      obtain ⟨w, hw, hw2⟩ := atI_pair hr hk
      exact ⟨p, vs, k, w, e2, rfl, same_t c2.fh hp, hw, q w H ⟨F, fp :: fs, c2.fr, c2.fh, c2.kp, c2.lv, c2.nc, c2.il, ⟨⟨h0, w, rfl, hw2⟩, c2.sl.2⟩, c2.nd, c2.ow⟩⟩
/-- an item of an owned list: x is read, the slot m owns -/
theorem own_at {m : Nat} {O : OTy κ} {x : V} {k0 : κ} (hl : σ.length = ρ.length) (h : ρ[m]? = some (own x O k0)) (c : Core B H (τ ++ σ.zip ρ)) : ∃ F fs fp, CoreAt B H (τ ++ σ.zip ρ) F fs ∧ O.rep F H x fp k0 := by
  obtain ⟨v, _, hm⟩ := mem_zip hl h
  obtain ⟨F, fs, c⟩ := c
  obtain ⟨fp, _, _, h2⟩ := Sl.mem c.sl (List.mem_append_right τ hm)
  exact ⟨F, fs, fp, c, h2⟩
theorem CoreAt.add {e : En} {F : Hp} {fs : List (List Addr)} (c : CoreAt B H L F fs) (h : e.2.ok B.io F H e.1 []) : Core B H (e :: L) :=
  ⟨F, [] :: fs, c.fr, c.fh, c.kp, c.lv, c.nc, c.il, ⟨h, c.sl⟩, c.nd, c.ow⟩
theorem ev_ixO {m : Nat} {x : V} {xs : List α} {k : Int} (ha : EvE B ρ ta (isv x) ρ1) (hb : EvE B ρ1 tb (dat tInt k) ρ2) (hm : ρ2[m]? = some (own x (oList T) xs)) (hk : atI xs k = some a) : EvE B ρ (tOp (rIxL K) ta tb) (dat T a) ρ2 := fun H σ τ Q st q =>
  ha H σ τ _ st fun x' H1 st1 => hb H1 σ _ _ st1 fun y H2 st2 => by
    obtain ⟨F, y', _, e1, e2⟩ := st2.core.d1
    cases e1; cases e2
    have st3 := st2.cut
    have ex := st3.core.i1
    cases ex
    obtain ⟨F, fs, fp, c, p, vs, h1, h2, h3, h4⟩ := own_at st3.cut.len hm st3.cut.core
    obtain ⟨w, hw, hw2⟩ := atI_pair h4 hk
    exact ⟨p, vs, k, w, h1, rfl, (.inl (.inl h3)), hw, q w H2 ⟨st2.len, c.add ⟨rfl, w, rfl, hw2⟩⟩⟩
theorem ev_ixQ {m : Nat} {x : V} {ds : List Dt} {k : Int} (ha : EvE B ρ ta (isv x) ρ1) (hb : EvE B ρ1 tb (dat tInt k) ρ2) (hm : ρ2[m]? = some (own x oSeq ds)) (hk : atI ds k = some (dt T a)) : EvE B ρ (tOp (rIxL K) ta tb) (dat T a) ρ2 := fun H σ τ Q st q =>
  ha H σ τ _ st fun x' H1 st1 => hb H1 σ _ _ st1 fun y H2 st2 => by
    obtain ⟨F, y', _, e1, e2⟩ := st2.core.d1
    cases e1; cases e2
    have st3 := st2.cut
    have ex := st3.core.i1
    cases ex
    obtain ⟨F, fs, fp, c, p, vs, h1, h2, h3, h4⟩ := own_at st3.cut.len hm st3.cut.core
    obtain ⟨w, hw, hw2⟩ := atI_pair h4 hk
    exact ⟨p, vs, k, w, h1, rfl, (.inl (.inl h3)), hw, q w H2 ⟨st2.len, c.add ⟨rfl, w, rfl, hw2⟩⟩⟩
/-- an owned object that stands in slot m is written -/
theorem St.write {m : Nat} {O O' : OTy κ} {k0 k1 : κ} {p : Addr} {o : HO} (st : St B H σ ρ τ) (h : ρ[m]? = some (own (.ref p) O k0))
    (ok : ∀ F fp, Same F H → O.rep F H (.ref p) fp k0 → p ∈ fp ∧ O'.rep F (upd H p o) (.ref p) fp k1) : St B (upd H p o) σ (ρ.set m (own (.ref p) O' k1)) τ := by
  obtain ⟨v, e, l, p1, p2, _⟩ := zip_perm st.len h
  have c := st.core.perm (perm_top τ p1)
  have c2 : Core B (upd H p o) ((v, own (.ref p) O' k1) :: (τ ++ l)) := c.write fun F fp m ⟨h1, h2⟩ => ⟨(ok F fp m h2).1, h1, (ok F fp m h2).2⟩
  exact ⟨by rw [List.length_set]; exact st.len, c2.perm (perm_top τ (p2 _)).symm⟩
/-- .. where the new part is read off the temp on top -/
theorem St.writeT {m : Nat} {O O' : OTy κ} {k0 k1 : κ} {p : Addr} {o : HO} {v : V} (st : St B H σ ρ ((some v, dat T a) :: τ)) (h : ρ[m]? = some (own (.ref p) O k0))
    (ok : ∀ F fp, Same F H → T.rep F v a → O.rep F H (.ref p) fp k0 → p ∈ fp ∧ O'.rep F (upd H p o) (.ref p) fp k1) : St B (upd H p o) σ (ρ.set m (own (.ref p) O' k1)) τ := by
  obtain ⟨v', e, l, p1, p2, _⟩ := zip_perm st.len h
  have q1 : ((some v, dat T a) :: τ ++ σ.zip ρ).Perm ((v', own (.ref p) O k0) :: (some v, dat T a) :: (τ ++ l)) := perm_top ((some v, dat T a) :: τ) p1
  obtain ⟨F, fs, c⟩ := st.core.perm q1
  match fs, c with
  | [], c => exact c.sl.elim
  | [_], c => exact c.sl.2.elim
  | fp :: fq :: fs, c =>
    obtain ⟨⟨e1, h2⟩, ⟨e2, w, e3, h3⟩, _⟩ := c.sl
    cases e3
    obtain ⟨hp, hn⟩ := ok F fp c.fh h3 h2
    have c2 : Core B (upd H p o) ((v', own (.ref p) O' k1) :: (some v, dat T a) :: (τ ++ l)) := by
      have ow := c.ow
      have nd := c.nd
      have mem : p ∈ (fp :: fq :: fs).flatten := by rw [List.flatten_cons]; exact List.mem_append_left _ hp
      obtain ⟨f0, ⟨u0, hu0⟩, w0⟩ := ow p mem
      rw [List.flatten_cons] at nd
      obtain ⟨m1, m2, m3⟩ := List.nodup_append.mp nd
      have some' : ∀ x u, H x = some u → ∃ u', upd H p o x = some u' := fun x u e => by
        by_cases hx : x = p
        · exact ⟨_, by rw [hx]; exact upd_same⟩
        · exact ⟨u, by rw [upd_ne hx]; exact e⟩
      refine ⟨F, fp :: fq :: fs, c.fr, fun x u e => ?_, fun x u e n => ?_, fun x u e => ?_, c.nc, c.il, ⟨⟨e1, hn⟩, c.sl.2.stab (Same.refl _) fun q hq => ?_⟩, c.nd, fun q hq => ?_⟩
      · rw [upd_ne (ne_of_none e f0)]; exact c.fh x u e
      · have hx : x ≠ p := fun z => by
          rcases w0 with h | h
          · exact n (z ▸ h)
          · rw [z, h] at e; cases e
        rw [upd_ne hx]; exact c.kp x u e n
      · obtain ⟨u', e'⟩ := c.lv x u e
        exact some' x u' e'
      · exact upd_ne fun z => m3 p hp q hq z.symm
      · obtain ⟨h1, ⟨u, hu⟩, h3⟩ := c.ow q hq
        exact ⟨h1, some' q u hu, h3⟩
    refine ⟨by rw [List.length_set]; exact st.len, ?_⟩
    have c3 := c2.swap.cut
    exact c3.perm (perm_top τ (p2 _)).symm
/-- xs.append(e), xs an owned list of slot i -/
theorem ex_append {p : Addr} {xs : List α} (h0 : ρ[i]? = some (own (.ref p) (oList T) xs)) (h : EvE B ρ te (dat T a) ρ1) (h1 : ρ1[i]? = some (own (.ref p) (oList T) xs)) (hz : xs.length ≤ 1000000) (k : N.nx (ρ1.set i (own (.ref p) (oList T) (xs ++ [a])))) :
    ExS B ρ (tDrop (tBM K "list" rAppend (tVar i) (tCons te tNil))) N := fun H σ τ D st k1 _ _ _ =>
  by
    show tVar i σ H (fun x H1 => tyV K "list" x H1 ∧ (tCons te tNil) σ H1 fun xs H2 => rAppend x xs H2 fun _ H1 => D.nx σ H1)
    refine ev_varO h0 H σ τ _ st fun v H0 st0 => ?_
    have ex := st0.core.i1
    cases ex
    obtain ⟨F, fs, fp, c, p', vs, e1, e2, e3, e4⟩ := own_at st0.cut.len h0 st0.cut.core
    cases e1
    refine ⟨.inl ⟨rfl, vs, .inl (.inl e3)⟩, h H0 σ _ _ st0.cut fun w H1 st1 => ?_⟩
    obtain ⟨F, fs, fp, c, p', vs, e1, e2, e3, e4⟩ := own_at (τ := (some w, dat T a) :: τ) st1.len h1 st1.core
    cases e1
    refine ⟨p, vs, w, rfl, rfl, e3, Nat.lt_of_le_of_lt (by rw [e4.length]; exact hz) (by decide), ?_⟩
    refine k1 _ _ σ k (st1.writeT h1 fun F fp _ hw ⟨p', vs', f1, f2, f3, f4⟩ => ?_)
    cases f1
    rw [e3] at f3
    cases f3
    exact ⟨by rw [f2]; exact List.mem_cons_self, p, vs ++ [w], rfl, f2, upd_same, pair_snoc f4 hw⟩
theorem pair_set {R : V → α → Prop} : ∀ {vs : List V} {xs : List α} {j : Nat} {v : V} {x : α}, Paired R vs xs → R v x → Paired R (vs.set j v) (xs.set j x)
  | _, _, _, _, _, .nil, _ => .nil
  | _, _, 0, _, _, .cons _ r, h => .cons h r
  | _, _, j + 1, _, _, .cons a r, h => .cons a (pair_set r h)
/-- xs[k] = e -/
theorem ex_setO {p : Addr} {xs : List α} {k : Int} {n : Nat} (h : EvE B ρ te (dat T a) ρ1) (h0 : ρ1[i]? = some (own (.ref p) (oList T) xs)) (hb : EvE B ρ1 tb (dat tInt k) ρ2) (h1 : ρ2[i]? = some (own (.ref p) (oList T) xs)) (hk : ixN xs.length k = some n) (q : N.nx (ρ2.set i (own (.ref p) (oList T) (xs.set n a)))) :
    ExS B ρ (tAsg te (gSub (tVar i) tb rSetL)) N := fun H σ τ D st k1 _ _ _ =>
  h H σ τ _ st fun w H0 st0 => ev_varO h0 H0 σ _ _ st0 fun v H1 st1 => by
    have ex := st1.core.i1
    cases ex
    exact hb H1 σ _ _ st1.cut fun y H2 st2 => by
      obtain ⟨F, y', _, e1, e2⟩ := st2.core.d1
      cases e1; cases e2
      have st3 := st2.cut
      obtain ⟨F, fs, fp, c, p', vs, e1, e2, e3, e4⟩ := own_at (τ := (some w, dat T a) :: τ) st3.len h1 st3.core
      cases e1
      refine ⟨p, vs, k, n, rfl, rfl, e3, by rw [e4.length]; exact hk, ?_⟩
      refine k1 _ _ σ q (st3.writeT h1 fun F fp _ hw ⟨p', vs', f1, f2, f3, f4⟩ => ?_)
      cases f1
      rw [e3] at f3
      cases f3
      exact ⟨by rw [f2]; exact List.mem_cons_self, p, vs.set n w, rfl, f2, upd_same, pair_set f4 hw⟩
theorem ex_setQ {p : Addr} {ds : List Dt} {k : Int} {n : Nat} (h : EvE B ρ te (dat T a) ρ1) (h0 : ρ1[i]? = some (own (.ref p) oSeq ds)) (hb : EvE B ρ1 tb (dat tInt k) ρ2) (h1 : ρ2[i]? = some (own (.ref p) oSeq ds)) (hk : ixN ds.length k = some n) (q : N.nx (ρ2.set i (own (.ref p) oSeq (ds.set n (dt T a))))) :
    ExS B ρ (tAsg te (gSub (tVar i) tb rSetL)) N := fun H σ τ D st k1 _ _ _ =>
  h H σ τ _ st fun w H0 st0 => ev_varO h0 H0 σ _ _ st0 fun v H1 st1 => by
    have ex := st1.core.i1
    cases ex
    exact hb H1 σ _ _ st1.cut fun y H2 st2 => by
      obtain ⟨F, y', _, e1, e2⟩ := st2.core.d1
      cases e1; cases e2
      have st3 := st2.cut
      obtain ⟨F, fs, fp, c, p', vs, e1, e2, e3, e4⟩ := own_at (τ := (some w, dat T a) :: τ) st3.len h1 st3.core
      cases e1
      refine ⟨p, vs, k, n, rfl, rfl, e3, by rw [e4.length]; exact hk, ?_⟩
      refine k1 _ _ σ q (st3.writeT h1 fun F fp _ hw ⟨p', vs', f1, f2, f3, f4⟩ => ?_)
      cases f1
      rw [e3] at f3
      cases f3
      exact ⟨by rw [f2]; exact List.mem_cons_self, p, vs.set n w, rfl, f2, upd_same, pair_set (R := fun v (d : Dt) => d.rep F v) f4 hw⟩
/-- x in xs, texts -/
theorem inV_str (s : Str) (xs : List Str) : inV (.str s) (xs.map V.str) = decide (s ∈ xs) := by
  unfold inV
  rw [List.any_map]
  by_cases h : s ∈ xs
  · rw [decide_eq_true h, List.any_eq_true]
    exact ⟨s, h, by show (s == s) = true; exact beq_self_eq_true s⟩
  · rw [decide_eq_false h, List.any_eq_false]
    intro y hy e
    have : (y == s) = true := e
    exact h (eq_of_beq this ▸ hy)
theorem flat_str (xs : List Str) : (xs.map V.str).all flatV = true := by rw [List.all_map]; exact List.all_eq_true.mpr fun _ _ => rfl
theorem ev_inL {s : Str} {xs : List Str} {neg : Bool} (ha : EvE B ρ ta (dat tStr s) ρ1) (hb : EvE B ρ1 tb (dat (tRow K tStr) xs) ρ2) : EvE B ρ (tOp (rIn K neg) ta tb) (dat tBl (if neg = true then !decide (s ∈ xs) else decide (s ∈ xs))) ρ2 :=
  ev_op ha hb fun H x y L Q c q => by
    obtain ⟨F, y', x', m, e1, e2, ⟨p, vs, e3, hp, hr⟩, e4⟩ := c.d2
    cases e1; cases e2; cases e4
    have ev := pair_str hr
    subst ev
    exact ⟨p, _, e3, .inl (m.seq hp), rfl, flat_str xs, by rw [inV_str]; exact q _ H (c.cut2.sc sc_bl)⟩
theorem ev_inT {s : Str} {xs : List Str} {neg : Bool} (ha : EvE B ρ ta (dat tStr s) ρ1) (hb : EvE B ρ1 tb (dat (tTupL K tStr) xs) ρ2) : EvE B ρ (tOp (rIn K neg) ta tb) (dat tBl (if neg = true then !decide (s ∈ xs) else decide (s ∈ xs))) ρ2 :=
  ev_op ha hb fun H x y L Q c q => by
    obtain ⟨F, y', x', m, e1, e2, ⟨p, vs, e3, hp, hr⟩, e4⟩ := c.d2
    cases e1; cases e2; cases e4
    have ev := pair_str hr
    subst ev
    exact ⟨p, _, e3, .inr (same_t m hp), rfl, flat_str xs, by rw [inV_str]; exact q _ H (c.cut2.sc sc_bl)⟩
theorem ev_inO {m : Nat} {s : Str} {x : V} {xs : List Str} {neg : Bool} (ha : EvE B ρ ta (dat tStr s) ρ1) (hb : EvE B ρ1 tb (isv x) ρ2) (hm : ρ2[m]? = some (own x (oList tStr) xs)) : EvE B ρ (tOp (rIn K neg) ta tb) (dat tBl (if neg = true then !decide (s ∈ xs) else decide (s ∈ xs))) ρ2 := fun H σ τ Q st q =>
  ha H σ τ _ st fun x' H1 st1 => hb H1 σ _ _ st1 fun y H2 st2 => by
    have ex := st2.core.i1
    cases ex
    have st3 := st2.cut
    obtain ⟨F, y', _, e1, e2⟩ := st3.core.d1
    cases e1; cases e2
    obtain ⟨F, fs, fp, c, p, vs, h1, h2, h3, h4⟩ := own_at st3.cut.len hm st3.cut.core
    have ev := pair_str h4
    subst ev
    exact ⟨p, _, h1, .inl ((.inl (.inl h3))), rfl, flat_str xs, by rw [inV_str]; exact q _ H2 ⟨st2.len, st3.cut.core.sc sc_bl⟩⟩
/-- len -/
abbrev rLenSq (K : PySem.W.Frag) : List V → Hp → VK → Prop := fun xs H Q => ∃ p ys, xs = [.ref p] ∧ (SqL K H p ys ∨ SqT K H p ys) ∧ Q (.int ys.length) H
theorem ev_lenL {xs : List α} (h : EvA B ρ as [dat (tRow K T) xs] ρ1) : EvE B ρ (tCB (rLenSq K) as) (dat tInt (xs.length : Int)) ρ1 := fun H σ τ Q st q =>
  h H σ τ _ st fun vs H1 hl st1 => by
    match vs, hl, st1 with
    | [v], _, st1 =>
      obtain ⟨F, x, m, e1, p, vs, e2, hp, hr⟩ := (show Core B H1 ((some v, dat (tRow K T) xs) :: (τ ++ σ.zip ρ1)) from st1.core).d1
      cases e1; subst e2
      exact ⟨p, vs, rfl, .inl (m.seq hp), q _ H1 ⟨st1.len, (show Core B H1 ((some (V.ref p), dat (tRow K T) xs) :: (τ ++ σ.zip ρ1)) from st1.core).cut.sc fun F => by rw [hr.length]; rfl⟩⟩
theorem ev_lenT {xs : List α} (h : EvA B ρ as [dat (tTupL K T) xs] ρ1) : EvE B ρ (tCB (rLenSq K) as) (dat tInt (xs.length : Int)) ρ1 := fun H σ τ Q st q =>
  h H σ τ _ st fun vs H1 hl st1 => by
    match vs, hl, st1 with
    | [v], _, st1 =>
      obtain ⟨F, x, m, e1, p, vs, e2, hp, hr⟩ := (show Core B H1 ((some v, dat (tTupL K T) xs) :: (τ ++ σ.zip ρ1)) from st1.core).d1
      cases e1; subst e2
      exact ⟨p, vs, rfl, .inr (same_t m hp), q _ H1 ⟨st1.len, (show Core B H1 ((some (V.ref p), dat (tTupL K T) xs) :: (τ ++ σ.zip ρ1)) from st1.core).cut.sc fun F => by rw [hr.length]; rfl⟩⟩
theorem ev_lenO {m : Nat} {x : V} {xs : List α} (h : EvE B ρ te (isv x) ρ1) (hm : ρ1[m]? = some (own x (oList T) xs)) : EvE B ρ (tCB (rLenSq K) (tCons te tNil)) (dat tInt (xs.length : Int)) ρ1 := fun H σ τ Q st q =>
  h H σ τ _ st fun y H1 st1 => by
    have ex := st1.core.i1
    cases ex
    obtain ⟨F, fs, fp, c, p, vs, h1, h2, h3, h4⟩ := own_at st1.cut.len hm st1.cut.core
    subst h1
    exact ⟨p, vs, rfl, .inl ((.inl (.inl h3))), q _ H1 ⟨st1.len, st1.cut.core.sc fun F => by rw [h4.length]; rfl⟩⟩
/-- any, all of a list of truth values -/
theorem ev_any {xs : List Bool} (h : EvA B ρ as [dat (tRow K tBl) xs] ρ1) : EvE B ρ (tCB (rAny K) as) (dat tBl (xs.any id)) ρ1 := fun H σ τ Q st q =>
  h H σ τ _ st fun vs H1 hl st1 => by
    match vs, hl, st1 with
    | [v], _, st1 =>
      have c : Core B H1 ((some v, dat (tRow K tBl) xs) :: (τ ++ σ.zip ρ1)) := st1.core
      obtain ⟨F, x, m, e1, p, vs, e2, hp, hr⟩ := c.d1
      cases e1; subst e2
      have ev := pair_bl hr
      subst ev
      exact ⟨p, xs, rfl, m.seq hp, q _ H1 ⟨st1.len, c.cut.sc sc_bl⟩⟩
theorem ev_all {xs : List Bool} (h : EvA B ρ as [dat (tRow K tBl) xs] ρ1) : EvE B ρ (tCB (rAll K) as) (dat tBl (xs.all id)) ρ1 := fun H σ τ Q st q =>
  h H σ τ _ st fun vs H1 hl st1 => by
    match vs, hl, st1 with
    | [v], _, st1 =>
      have c : Core B H1 ((some v, dat (tRow K tBl) xs) :: (τ ++ σ.zip ρ1)) := st1.core
      obtain ⟨F, x, m, e1, p, vs, e2, hp, hr⟩ := c.d1
      cases e1; subst e2
      have ev := pair_bl hr
      subst ev
      exact ⟨p, xs, rfl, m.seq hp, q _ H1 ⟨st1.len, c.cut.sc sc_bl⟩⟩
/-- list(xs) -/
abbrev rListSq (K : PySem.W.Frag) : List V → Hp → VK → Prop := fun xs H Q => ∃ p ys, xs = [.ref p] ∧ (SqL K H p ys ∨ SqT K H p ys) ∧ ∀ l, H l = none → Q (.ref l) (upd H l (.lst ys))
theorem fr_list {xs : List α} (h : EvA B ρ as [dat (tRow K T) xs] ρ1) : EvE B ρ (tCB (rListSq K) as) (fre (oList T) xs) ρ1 := fun H σ τ Q st q =>
  h H σ τ _ st fun vs H1 hl st1 => by
    match vs, hl, st1 with
    | [v], _, st1 =>
      obtain ⟨p, vs, rfl, hl, hq, st2⟩ := St.row (show St B H1 σ ρ1 ((some v, dat (tRow K T) xs) :: τ) from st1)
      refine ⟨p, vs, rfl, .inl hq, fun l hn => q _ _ ⟨st1.len, ?_⟩⟩
      have c : Core B H1 ((some (.ref p), dat (tRowAt K T p vs) xs) :: (τ ++ σ.zip ρ1)) := st2.core
      have c2 := c.allocO (o := .lst vs) (s := fre (oList T) xs) hn fun F ⟨fs, c'⟩ hi => by
        obtain ⟨fp, _, _, x, e1, _, _, hr⟩ := Sl.mem (e := (some (.ref p), dat (tRowAt K T p vs) xs)) c'.sl List.mem_cons_self
        exact ⟨.ref l, rfl, ⟨l, vs, rfl, rfl, upd_same, hr⟩, fun q hq => by rw [List.mem_singleton.mp hq]; exact hi⟩
      exact c2.swap.cut
theorem fr_listT {xs : List α} (h : EvA B ρ as [dat (tTupL K T) xs] ρ1) : EvE B ρ (tCB (rListSq K) as) (fre (oList T) xs) ρ1 := fun H σ τ Q st q =>
  h H σ τ _ st fun vs H1 hl st1 => by
    match vs, hl, st1 with
    | [v], _, st1 =>
      obtain ⟨p, vs, rfl, hl, hq, st2⟩ := St.tupl (show St B H1 σ ρ1 ((some v, dat (tTupL K T) xs) :: τ) from st1)
      refine ⟨p, vs, rfl, .inr hq, fun l hn => q _ _ ⟨st1.len, ?_⟩⟩
      have c : Core B H1 ((some (.ref p), dat (tTupAt K T p vs) xs) :: (τ ++ σ.zip ρ1)) := st2.core
      have c2 := c.allocO (o := .lst vs) (s := fre (oList T) xs) hn fun F ⟨fs, c'⟩ hi => by
        obtain ⟨fp, _, _, x, e1, _, _, hr⟩ := Sl.mem (e := (some (.ref p), dat (tTupAt K T p vs) xs)) c'.sl List.mem_cons_self
        exact ⟨.ref l, rfl, ⟨l, vs, rfl, rfl, upd_same, hr⟩, fun q hq => by rw [List.mem_singleton.mp hq]; exact hi⟩
      exact c2.swap.cut
/-- xs + ys -/
theorem pair_append {R : V → α → Prop} : ∀ {vs ws : List V} {xs ys : List α}, Paired R vs xs → Paired R ws ys → Paired R (vs ++ ws) (xs ++ ys)
  | _, _, _, _, .nil, h => h
  | _, _, _, _, .cons a r, h => .cons a (pair_append r h)
theorem fr_cat {xs ys : List α} (ha : EvE B ρ ta (dat (tList T) xs) ρ1) (hb : EvE B ρ1 tb (dat (tList T) ys) ρ2) (hz : xs.length + ys.length ≤ sizeLine) : EvE B ρ (tOp rCat ta tb) (fre (oList T) (xs ++ ys)) ρ2 :=
  ev_op ha hb fun H x y L Q c q => by
    obtain ⟨F, y', x', m, e1, e2, ⟨p, vs, e3, hp, hr⟩, ⟨p2, vs2, e4, hp2, hr2⟩⟩ := c.d2
    cases e1; cases e2; subst e3; subst e4
    refine ⟨p2, p, vs2, vs, rfl, rfl, m _ _ hp2, m _ _ hp, by rw [hr.length, hr2.length]; exact hz, fun l hn => q _ _ ?_⟩
    have c2 := c.allocO (o := .lst (vs2 ++ vs)) (s := fre (oList T) (xs ++ ys)) hn fun F ⟨fs, c'⟩ hi => by
      match fs, c' with
      | [], c' => exact c'.sl.elim
      | [_], c' => exact c'.sl.2.elim
      | fp :: fq :: fs, c' =>
        obtain ⟨⟨_, x1, f1, q1, w1, g1, h1, r1⟩, ⟨_, x2, f2, q2, w2, g2, h2, r2⟩, _⟩ := c'.sl
        cases f1; cases f2; cases g1; cases g2
        have z1 := m _ _ hp
        have z2 := c'.fh _ _ h1
        rw [z1] at z2; cases z2
        have z3 := m _ _ hp2
        have z4 := c'.fh _ _ h2
        rw [z3] at z4; cases z4
        exact ⟨.ref l, rfl, ⟨l, _, rfl, rfl, upd_same, pair_append r2 r1⟩, fun q hq => by rw [List.mem_singleton.mp hq]; exact hi⟩
    have p : ((some (V.ref l), fre (oList T) (xs ++ ys)) :: (some (V.ref p), dat (tList T) ys) :: (some (V.ref p2), dat (tList T) xs) :: L).Perm ((some (V.ref p), dat (tList T) ys) :: (some (V.ref p2), dat (tList T) xs) :: (some (V.ref l), fre (oList T) (xs ++ ys)) :: L) :=
      (List.Perm.swap _ _ _).trans ((List.Perm.swap _ _ _).cons _)
    exact (c2.perm p).cut2
/-- int(truth value) -/
abbrev rInt1 : List V → Hp → VK → Prop := fun xs H Q => (∃ i, xs = [.int i] ∧ Q (.int i) H) ∨ ∃ k, xs = [.bl k] ∧ Q (.int (if k then 1 else 0)) H
theorem ev_intB {k : Bool} (h : EvA B ρ as [dat tBl k] ρ1) : EvE B ρ (tCB rInt1 as) (dat tInt (if k then 1 else 0)) ρ1 := fun H σ τ Q st q =>
  h H σ τ _ st fun vs H1 hl st1 => by
    match vs, hl, st1 with
    | [v], _, st1 =>
      have c : Core B H1 ((some v, dat tBl k) :: (τ ++ σ.zip ρ1)) := st1.core
      obtain ⟨F, x, m, e1, e2⟩ := c.d1
      cases e1; cases e2
      exact .inr ⟨k, rfl, q _ H1 ⟨st1.len, c.cut.sc sc_int⟩⟩
theorem ev_intI {k : Int} (h : EvA B ρ as [dat tInt k] ρ1) : EvE B ρ (tCB rInt1 as) (dat tInt k) ρ1 := fun H σ τ Q st q =>
  h H σ τ _ st fun vs H1 hl st1 => by
    match vs, hl, st1 with
    | [v], _, st1 =>
      have c : Core B H1 ((some v, dat tInt k) :: (τ ++ σ.zip ρ1)) := st1.core
      obtain ⟨F, x, m, e1, e2⟩ := c.d1
      cases e1; cases e2
      exact .inl ⟨k, rfl, q _ H1 ⟨st1.len, c.cut.sc sc_int⟩⟩
end
end Sw
/-! text Sw7 -/
set_option maxHeartbeats 4000000
namespace Sw
open PySem L2
variable {α β γ δ κ : Type}
section
variable {B : Bas} {H H' : Hp} {σ : L2.St} {ρ ρ1 ρ2 ρ3 ρ' : List SV} {τ : List En} {L L1 L2' : List En} {R S1 S2 S : SV} {ta tb te tl td tk tv : TE} {tt tu : TT} {as : TA} {a : α} {b : β} {c : γ} {T : Ty α} {U : Ty β} {W : Ty γ} {i j : Nat} {K : PySem.W.Frag} {N : Kn} {A : Type}
/-! ### dicts with text keys, as lists of pairs -/
def dHas (d : List (Str × α)) (k : Str) : Bool := d.any fun q => decide (q.1 = k)
def dGet (d : List (Str × α)) (k : Str) : Option α := (d.find? fun q => decide (q.1 = k)).map (·.2)
def dPut (d : List (Str × α)) (k : Str) (v : α) : List (Str × α) := if dHas d k = true then d.map (fun q => if q.1 = k then (q.1, v) else q) else d ++ [(k, v)]
theorem kv_key {F : Hp} {w : Key × V} {x : Str × α} (h : kvR T F w x) (k : Str) : decide (w.1 = Sum.inr k) = decide (x.1 = k) := by
  rw [h.1]
  exact decide_eq_decide.mpr ⟨fun e => Sum.inr.inj e, fun e => congrArg Sum.inr e⟩
theorem kv_find {F : Hp} {k : Str} : ∀ {ws : List (Key × V)} {x : List (Str × α)}, Paired (kvR T F) ws x → (valV ws (Sum.inr k) = none ∧ dGet x k = none) ∨ ∃ v a, valV ws (Sum.inr k) = some v ∧ dGet x k = some a ∧ T.rep F v a
  | _, _, .nil => .inl ⟨rfl, rfl⟩
  | w :: ws, q :: x, .cons h r => by
    have e := kv_key h k
    by_cases hk : q.1 = k
    · rw [decide_eq_true hk] at e
      refine .inr ⟨w.2, q.2, ?_, ?_, h.2⟩
      · unfold valV; rw [List.find?_cons, e]; rfl
      · unfold dGet; rw [List.find?_cons, decide_eq_true hk]; rfl
    · rw [decide_eq_false hk] at e
      have s1 : valV (w :: ws) (Sum.inr k) = valV ws (Sum.inr k) := by unfold valV; rw [List.find?_cons, e]
      have s2 : dGet (q :: x) k = dGet x k := by unfold dGet; rw [List.find?_cons, decide_eq_false hk]
      rw [s1, s2]
      exact kv_find r
theorem kv_any {F : Hp} {k : Str} : ∀ {ws : List (Key × V)} {x : List (Str × α)}, Paired (kvR T F) ws x → (ws.any fun kv => decide (kv.1 = Sum.inr k)) = dHas x k
  | _, _, .nil => rfl
  | w :: ws, q :: x, .cons h r => by
    show (decide (w.1 = Sum.inr k) || ws.any _) = (decide (q.1 = k) || dHas x k)
    rw [kv_key h k, kv_any r]
theorem kv_put {F : Hp} {k : Str} {v : V} {a : α} {ws : List (Key × V)} {x : List (Str × α)} (h : Paired (kvR T F) ws x) (hv : T.rep F v a) : Paired (kvR T F) (putK ws (Sum.inr k) v) (dPut x k a) := by
  unfold putK dPut
  rw [kv_any h]
  cases dHas x k with
  | true =>
    rw [if_pos rfl, if_pos rfl]
    induction h with
    | nil => exact .nil
    | @cons w q ws x h r ih =>
      rw [List.map_cons, List.map_cons]
      refine .cons ?_ ih
      have e := kv_key h k
      by_cases hk : q.1 = k
      · rw [decide_eq_true hk] at e
        rw [if_pos (of_decide_eq_true e), if_pos hk]
        exact ⟨h.1, hv⟩
      · rw [decide_eq_false hk] at e
        rw [if_neg (of_decide_eq_false e), if_neg hk]
        exact h
  | false =>
    rw [if_neg Bool.false_ne_true, if_neg Bool.false_ne_true]
    exact pair_append' h (.cons ⟨rfl, hv⟩ .nil)
where
  pair_append' {α β : Type} {R : α → β → Prop} : ∀ {vs ws : List α} {xs ys : List β}, Paired R vs xs → Paired R ws ys → Paired R (vs ++ ws) (xs ++ ys)
  | _, _, _, _, .nil, h => h
  | _, _, _, _, .cons a r, h => .cons a (pair_append' r h)
theorem dHas_get {d : List (Str × α)} {k : Str} : dHas d k = (dGet d k).isSome := by
  induction d with
  | nil => rfl
  | cons q d ih =>
    show (decide (q.1 = k) || dHas d k) = _
    by_cases hk : q.1 = k
    · have : dGet (q :: d) k = some q.2 := by unfold dGet; rw [List.find?_cons, decide_eq_true hk]; rfl
      rw [this, decide_eq_true hk]; rfl
    · have : dGet (q :: d) k = dGet d k := by unfold dGet; rw [List.find?_cons, decide_eq_false hk]
      rw [this, decide_eq_false hk, ih]; rfl
/-- k in d -/
theorem ev_din {d : List (Str × α)} {k : Str} (hk : EvE B ρ tk (dat tStr k) ρ1) (hd : EvE B ρ1 td (dat (tDic T) d) ρ2) : EvE B ρ (tDIn tk td) (dat tBl (dHas d k)) ρ2 := fun H σ τ Q st q =>
  hk H σ τ _ st fun y H1 st1 => hd H1 σ _ _ st1 fun x H2 st2 => by
    obtain ⟨F, x', y', m, e1, e2, ⟨p, ws, e3, hp, hr⟩, e4⟩ := st2.core.d2
    cases e1; cases e2; cases e4
    refine ⟨p, valV ws (Sum.inr k), e3, .inl ⟨ws, Sum.inr k, same_rd m hp, rfl, rfl⟩, ?_⟩
    have e : (valV ws (Sum.inr k)).isSome = dHas d k := by rw [← valV_any, kv_any hr]
    rw [e]
    exact q _ H2 ⟨st2.len, st2.core.cut2.sc sc_bl⟩
theorem ev_dnotin {d : List (Str × α)} {k : Str} (hk : EvE B ρ tk (dat tStr k) ρ1) (hd : EvE B ρ1 td (dat (tDic T) d) ρ2) : EvE B ρ (tDNotIn tk td) (dat tBl (!dHas d k)) ρ2 := fun H σ τ Q st q =>
  hk H σ τ _ st fun y H1 st1 => hd H1 σ _ _ st1 fun x H2 st2 => by
    obtain ⟨F, x', y', m, e1, e2, ⟨p, ws, e3, hp, hr⟩, e4⟩ := st2.core.d2
    cases e1; cases e2; cases e4
    refine ⟨p, valV ws (Sum.inr k), e3, .inl ⟨ws, Sum.inr k, same_rd m hp, rfl, rfl⟩, ?_⟩
    have e : (valV ws (Sum.inr k)).isSome = dHas d k := by rw [← valV_any, kv_any hr]
    rw [e]
    exact q _ H2 ⟨st2.len, st2.core.cut2.sc sc_bl⟩
theorem ev_dinO {m : Nat} {d : List (Str × α)} {k : Str} {x0 : V} (hk : EvE B ρ tk (dat tStr k) ρ1) (hd : EvE B ρ1 td (isv x0) ρ2) (hm : ρ2[m]? = some (own x0 (oDic T) d)) : EvE B ρ (tDIn tk td) (dat tBl (dHas d k)) ρ2 := fun H σ τ Q st q =>
  hk H σ τ _ st fun y H1 st1 => hd H1 σ _ _ st1 fun x H2 st2 => by
    have ex := st2.core.i1
    cases ex
    have st3 := st2.cut
    obtain ⟨F, y', _, e1, e2⟩ := st3.core.d1
    cases e1; cases e2
    obtain ⟨F, fs, fp, c, p, ws, h1, h2, h3, h4⟩ := own_at st3.cut.len hm st3.cut.core
    refine ⟨p, valV ws (Sum.inr k), h1, .inl ⟨ws, Sum.inr k, .inl h3, rfl, rfl⟩, ?_⟩
    have e : (valV ws (Sum.inr k)).isSome = dHas d k := by rw [← valV_any, kv_any h4]
    rw [e]
    exact q _ H2 ⟨st2.len, st3.cut.core.sc sc_bl⟩
theorem ev_dget {d : List (Str × α)} {k : Str} (hd : EvE B ρ td (dat (tDic T) d) ρ1) (hk : EvE B ρ1 tk (dat tStr k) ρ2) (hg : dGet d k = some a) : EvE B ρ (tDGet td tk) (dat T a) ρ2 := fun H σ τ Q st q =>
  hd H σ τ _ st fun x H1 st1 => hk H1 σ _ _ st1 fun y H2 st2 => by
    obtain ⟨F, y', _, e1, e2⟩ := st2.core.d1
    cases e1; cases e2
    obtain ⟨F, fs, c2⟩ := st2.core.cut
    cases fs with
    | nil => exact c2.sl.elim
    | cons fp fs =>
      obtain ⟨h0, x', e1, p, ws, e3, hp, hr⟩ := c2.sl.1
      cases e1
      rcases kv_find (k := k) hr with ⟨_, e⟩ | ⟨v, a', e5, e6, e7⟩
      · rw [hg] at e; cases e
      · rw [hg] at e6; cases e6
        exact ⟨p, v, e3, .inl ⟨ws, Sum.inr k, same_rd c2.fh hp, rfl, e5.symm⟩, q v H2 ⟨st2.len, F, fp :: fs, c2.fr, c2.fh, c2.kp, c2.lv, c2.nc, c2.il, ⟨⟨h0, v, rfl, e7⟩, c2.sl.2⟩, c2.nd, c2.ow⟩⟩
/-- {} -/
theorem fr_dnew : EvE B ρ tDNewK (fre (oDic T) []) ρ := fun H σ τ Q st q => fun p hp => q _ _ ⟨st.len, st.core.allocO (o := .dK []) (s := fre (oDic T) []) hp fun F _ hi => ⟨.ref p, rfl, ⟨p, [], rfl, rfl, upd_same, .nil⟩, fun q hq => by rw [List.mem_singleton.mp hq]; exact hi⟩⟩
/-- d[k] = v, d owned in slot i -/
theorem ex_dput {p : Addr} {d : List (Str × α)} {k : Str} (h : EvE B ρ tv (dat T a) ρ1) (h0 : ρ1[i]? = some (own (.ref p) (oDic T) d)) (hk : EvE B ρ1 tk (dat tStr k) ρ2) (h1 : ρ2[i]? = some (own (.ref p) (oDic T) d)) (hz : d.length ≤ 1000000) (q : N.nx (ρ2.set i (own (.ref p) (oDic T) (dPut d k a)))) :
    ExS B ρ (sDPut (tVar i) tk tv) N := fun H σ τ D st k1 _ _ _ =>
  h H σ τ _ st fun w H0 st0 => ev_varO h0 H0 σ _ _ st0 fun v H1 st1 => by
    have ex := st1.core.i1
    cases ex
    exact hk H1 σ _ _ st1.cut fun y H2 st2 => by
      obtain ⟨F, y', _, e1, e2⟩ := st2.core.d1
      cases e1; cases e2
      have st3 := st2.cut
      obtain ⟨F, fs, fp, c, p', ws, e1, e2, e3, e4⟩ := own_at (τ := (some w, dat T a) :: τ) st3.len h1 st3.core
      cases e1
      refine ⟨p, _, rfl, .inl ⟨ws, Sum.inr k, e3, rfl, Nat.lt_of_le_of_lt (by rw [e4.length]; exact hz) (by decide), rfl⟩, ?_⟩
      refine k1 _ _ σ q (st3.writeT h1 fun F fp _ hw ⟨p', vs', f1, f2, f3, f4⟩ => ?_)
      cases f1
      rw [e3] at f3
      cases f3
      exact ⟨by rw [f2]; exact List.mem_cons_self, p, _, rfl, f2, upd_same, kv_put f4 hw⟩
/-! ### texts -/
theorem fr_split {s t : Str} {r : V → List V → Hp → VK → Prop} (hr : r = fun x xs H Q => ∃ a b, x = .str a ∧ xs = [.str b] ∧ (b.length == 0) = false ∧ a.length + 2 ≤ sizeLine ∧ rNewStrs (Txt.split a b) H Q) (ha : EvE B ρ ta (dat tStr s) ρ1) (hb : EvE B ρ1 tb (dat tStr t) ρ2) (h0 : (t.length == 0) = false) (hz : s.length + 2 ≤ sizeLine) :
    EvE B ρ (tM1 r ta tb) (fre (oList tStr) (Txt.split s t)) ρ2 := fun H σ τ Q st q =>
  ha H σ τ _ st fun x H1 st1 => by
    obtain ⟨F, x', _, e1, e2⟩ := st1.core.d1
    cases e1; cases e2
    refine ⟨⟨s, rfl⟩, hb H1 σ _ _ st1 fun y H2 st2 => ?_⟩
    obtain ⟨F, x', _, e1, e2⟩ := st2.core.d1
    cases e1; cases e2
    subst hr
    refine ⟨s, t, rfl, rfl, h0, hz, fun p hp => q _ _ ⟨st2.len, ?_⟩⟩
    have c := st2.core.cut2
    refine c.allocO (s := fre (oList tStr) (Txt.split s t)) hp fun F _ hi => ⟨.ref p, rfl, ⟨p, _, rfl, rfl, upd_same, ?_⟩, fun q hq => by rw [List.mem_singleton.mp hq]; exact hi⟩
    exact str_pair _
where
  str_pair {F : Hp} : ∀ xs : List Str, Paired (tStr.rep F) (xs.map V.str) xs
  | [] => .nil
  | _ :: r => .cons rfl (str_pair r)
theorem ev_join {s : Str} {xs : List Str} {r : V → List V → Hp → VK → Prop} (hr : r = fun x xs H Q => ∃ a p, ∃ ys : List Str, x = .str a ∧ xs = [.ref p] ∧ (SqL K H p (ys.map V.str) ∨ SqT K H p (ys.map V.str)) ∧ (ys.map (·.length)).sum + ys.length * a.length ≤ 16777216 ∧ Q (.str (Txt.join a ys)) H)
    (ha : EvE B ρ ta (dat tStr s) ρ1) (hb : EvE B ρ1 tb (dat (tRow K tStr) xs) ρ2) (hz : (xs.map (·.length)).sum + xs.length * s.length ≤ 16777216) : EvE B ρ (tM1 r ta tb) (dat tStr (Txt.join s xs)) ρ2 := fun H σ τ Q st q =>
  ha H σ τ _ st fun x H1 st1 => by
    obtain ⟨F, x', _, e1, e2⟩ := st1.core.d1
    cases e1; cases e2
    refine ⟨⟨s, rfl⟩, hb H1 σ _ _ st1 fun y H2 st2 => ?_⟩
    obtain ⟨F, x', m, e1, p, vs, e2, hp, hq⟩ := st2.core.d1
    cases e1; subst e2
    have ev := pair_str hq
    subst ev
    subst hr
    exact ⟨s, p, xs, rfl, rfl, .inl (m.seq hp), hz, q _ H2 ⟨st2.len, st2.core.cut2.sc sc_str⟩⟩
/-- f-strings of texts -/
theorem ev_fmt {s : Str} (h : EvE B ρ te (dat tStr s) ρ1) (hz : s.length ≤ sizeLine) : EvE B ρ (tFmt te) (dat tStr s) ρ1 := fun H σ τ Q st q =>
  h H σ τ _ st fun v H1 st1 => by
    obtain ⟨F, x', _, e1, e2⟩ := st1.core.d1
    cases e1; cases e2
    exact .inl ⟨s, rfl, hz, q _ H1 st1⟩
def EvJ (B : Bas) (ρ : List SV) (ts : List TE) (acc out : Str) (ρ' : List SV) : Prop :=
  ∀ (H : Hp) (σ : L2.St) (τ : List En) (Q : Str → Hp → Prop), St B H σ ρ τ → (∀ H', St B H' σ ρ' τ → Q out H') → tJs ts acc σ H Q
theorem ej_nil {acc : Str} : EvJ B ρ [] acc acc ρ := fun H σ τ Q st q => q H st
theorem ej_cons {ts : List TE} {acc s out : Str} (h : EvE B ρ te (dat tStr s) ρ1) (hz : (acc ++ s).length ≤ sizeLine) (r : EvJ B ρ1 ts (acc ++ s) out ρ2) : EvJ B ρ (te :: ts) acc out ρ2 := fun H σ τ Q st q =>
  h H σ τ _ st fun v H1 st1 => by
    obtain ⟨F, x', _, e1, e2⟩ := st1.core.d1
    cases e1; cases e2
    exact ⟨s, rfl, hz, r H1 σ τ Q st1.cut q⟩
theorem ev_joined {ts : List TE} {out : Str} (h : EvJ B ρ ts Str.empty out ρ1) : EvE B ρ (fun σ H Q => tJs ts Str.empty σ H fun out H1 => Q (.str out) H1) (dat tStr out) ρ1 := fun H σ τ Q st q =>
  h H σ τ _ st fun H1 st1 => q _ H1 ⟨st1.len, st1.core.sc sc_str⟩
/-! ### instances -/
theorem fs_lookup {F : Hp} {f : Str} : ∀ {fs : List (Str × V)} {ds : List (Str × Dt)}, FsR F fs ds → (fs.lookup f = none ∧ ds.lookup f = none) ∨ ∃ v d, fs.lookup f = some v ∧ ds.lookup f = some d ∧ d.rep F v
  | _, _, .nil => .inl ⟨rfl, rfl⟩
  | q :: fs, d :: ds, .cons h r => by
    obtain ⟨q1, q2⟩ := q
    obtain ⟨d1, d2⟩ := d
    obtain ⟨h1, h2⟩ := h
    simp only at h1 h2
    subst h1
    rw [List.lookup_cons, List.lookup_cons]
    cases e : f == q1 with
    | true => exact .inr ⟨q2, d2, rfl, rfl, h2⟩
    | false => exact fs_lookup r
def putD (f : Str) (d : Dt) : List (Str × Dt) → List (Str × Dt)
  | [] => [(f, d)]
  | (g, x) :: r => if g = f then (g, d) :: r else (g, x) :: putD f d r
theorem fs_put {F : Hp} {f : Str} {v : V} {d : Dt} : ∀ {fs : List (Str × V)} {ds : List (Str × Dt)}, FsR F fs ds → d.rep F v → FsR F (putF f v fs) (putD f d ds)
  | _, _, .nil, h => .cons ⟨rfl, h⟩ .nil
  | q :: fs, d0 :: ds, .cons h r, hv => by
    obtain ⟨q1, q2⟩ := q
    obtain ⟨d1, d2⟩ := d0
    obtain ⟨h1, h2⟩ := h
    simp only at h1 h2
    subst h1
    show FsR F (if q1 = f then (q1, v) :: fs else (q1, q2) :: putF f v fs) (if q1 = f then (q1, d) :: ds else (q1, d2) :: putD f d ds)
    by_cases e : q1 = f
    · rw [if_pos e, if_pos e]; exact .cons ⟨rfl, hv⟩ r
    · rw [if_neg e, if_neg e]; exact .cons ⟨rfl, h2⟩ (fs_put r hv)
theorem ev_fld {C : Addr} {ds : List (Str × Dt)} {f : Str} (h : EvE B ρ te (dat (tIns C) ds) ρ1) (hc : Cls K C) (hn : NoAttr K C f) (hf : ds.lookup f = some (dt T a)) : EvE B ρ (tFld K te f) (dat T a) ρ1 := fun H σ τ Q st q =>
  h H σ τ _ st fun x H1 st1 => by
    obtain ⟨F, fs, c⟩ := st1.core
    cases fs with
    | nil => exact c.sl.elim
    | cons fp fs =>
      obtain ⟨h0, x', e1, p, dx, gs, e2, hp, hr⟩ := c.sl.1
      cases e1
      rcases fs_lookup (f := f) hr with ⟨_, e⟩ | ⟨v, d, e3, e4, e5⟩
      · rw [hf] at e; cases e
      · rw [hf] at e4; cases e4
        exact ⟨p, C, dx, gs, v, e2, c.fh _ _ hp, hc, hn, e3, q v H1 ⟨st1.len, F, fp :: fs, c.fr, c.fh, c.kp, c.lv, c.nc, c.il, ⟨⟨h0, v, rfl, e5⟩, c.sl.2⟩, c.nd, c.ow⟩⟩
theorem ev_fldO {m : Nat} {x0 : V} {C : Addr} {ds : List (Str × Dt)} {f : Str} (h : EvE B ρ te (isv x0) ρ1) (hm : ρ1[m]? = some (own x0 (oIns C) ds)) (hc : Cls K C) (hn : NoAttr K C f) (hf : ds.lookup f = some (dt T a)) : EvE B ρ (tFld K te f) (dat T a) ρ1 := fun H σ τ Q st q =>
  h H σ τ _ st fun x H1 st1 => by
    have ex := st1.core.i1
    cases ex
    obtain ⟨F, fs, fp, c, p, dx, gs, h1, h2, h3, h4⟩ := own_at st1.cut.len hm st1.cut.core
    rcases fs_lookup (f := f) h4 with ⟨_, e⟩ | ⟨v, d, e3, e4, e5⟩
    · rw [hf] at e; cases e
    · rw [hf] at e4; cases e4
      exact ⟨p, C, dx, gs, v, h1, h3, hc, hn, e3, q v H1 ⟨st1.len, c.add ⟨rfl, v, rfl, e5⟩⟩⟩
/-- x.f = e, x an owned instance in slot i -/
theorem ex_fld {p : Addr} {C : Addr} {ds : List (Str × Dt)} {f : Str} (h : EvE B ρ tv (dat T a) ρ1) (h0 : ρ1[i]? = some (own (.ref p) (oIns C) ds)) (hc : Cls K C) (hn : NoAttr K C f) (hl : ds.length < 1000) (q : N.nx (ρ1.set i (own (.ref p) (oIns C) (putD f (dt T a) ds)))) : ExS B ρ (sFld K (tVar i) tv f) N := fun H σ τ D st k1 _ _ _ =>
  h H σ τ _ st fun w H0 st0 => ev_varO h0 H0 σ _ _ st0 fun v H1 st1 => by
    have ex := st1.core.i1
    cases ex
    have st3 := st1.cut
    obtain ⟨F, fs, fp, c, p', dx, gs, e1, e2, e3, e4⟩ := own_at (τ := (some w, dat T a) :: τ) st3.len h0 st3.core
    cases e1
    refine ⟨p, C, dx, gs, rfl, e3, hc, hn, by rw [e4.length]; exact hl, ?_⟩
    refine k1 _ _ σ q (st3.writeT h0 fun F fp _ hw ⟨p', dx', vs', f1, f2, f3, f4⟩ => ?_)
    cases f1
    rw [e3] at f3
    cases f3
    exact ⟨by rw [f2]; exact List.mem_cons_self, p, dx, _, rfl, f2, upd_same, fs_put f4 hw⟩
/-- C(..) by an own __init__ -/
theorem fr_make {pre : A → Prop} {ins : A → List SV} {s1 : A → List (Str × Dt)} {C : Addr} (a : A) (h : EvA B ρ as (ins a) ρ1) (hp : pre a) (hf : ∀ s ∈ ins a, Fr s) :
    EvE B ρ (tMk C (spM pre (oIns C) (fun _ => []) ins s1 (fun _ => dat tNon ())) as) (fre (oIns C) (s1 a)) ρ1 := fun H σ τ Q st q =>
  h H σ τ _ st fun vs H1 hl st1 => fun x dx hx hdx ne => by
    have c := st1.core
    rw [List.append_assoc] at c
    obtain ⟨F, fs, cc⟩ := c
    have c1 := cc.new (o := .own x) hdx
    have hx1 : upd H1 dx (.own x) x = none := by rw [upd_ne ne.symm]; exact hx
    have hio : x ∉ B.io := cc.noio hx
    have c2 : Core B (upd (upd H1 dx (.own x)) x (.ins C dx [])) ((some (.ref x), own (.ref x) (oIns C) []) :: (ens vs (ins a) ++ (τ ++ σ.zip ρ1))) :=
      Core.allocO (o := .ins C dx []) (s := own (.ref x) (oIns C) []) ⟨F, fs, c1⟩ hx1 fun F _ _ => ⟨rfl, x, dx, [], rfl, rfl, upd_same, .nil⟩
    have c3 : Core B (upd (upd H1 dx (.own x)) x (.ins C dx [])) (((some (.ref x), own (.ref x) (oIns C) []) :: ens vs (ins a)) ++ (τ ++ σ.zip ρ1)) := c2
    obtain ⟨F, fi, p, k⟩ := c3.frame (fun e he => by
      rcases List.mem_cons.mp he with rfl | he
      · exact fr_own
      · exact fr_ens hf e he)
    refine ⟨a, F, fi, .ref x, vs, hp, rfl, hl, p, fun v H' d => ?_⟩
    have c4 : Core B H' ((some v, dat tNon ()) :: (some (.ref x), own (.ref x) (oIns C) (s1 a)) :: (τ ++ σ.zip ρ1)) := k H' _ d
    obtain ⟨_, w, _, e1, e2⟩ := c4.d1
    cases e1
    refine ⟨e2, q _ H' ⟨st1.len, c4.cut.weak fun F fp _ ⟨h1, h2⟩ => .inl ⟨.ref x, rfl, h2, fun q hq => ?_⟩⟩⟩
    obtain ⟨p', _, _, h5, h6, _⟩ := h2
    cases h5
    rw [h6] at hq
    rw [List.mem_singleton.mp hq]
    exact hio
/-- what does not speak of the frozen part -/
def Ff (s : SV) : Prop := ∀ {io : List Addr} {F F' H : Hp} {v : Option V} {fp : List Addr}, s.ok io F H v fp → s.ok io F' H v fp
theorem ff_int {i : Int} : Ff (dat tInt i) := fun h => h
theorem ff_bl {i : Bool} : Ff (dat tBl i) := fun h => h
theorem ff_str {i : Str} : Ff (dat tStr i) := fun h => h
theorem ff_non {i : Unit} : Ff (dat tNon i) := fun h => h
theorem ff_strs {xs : List Str} : Ff (fre (oList tStr) xs) := fun ⟨x, h1, ⟨p, vs, a, b, c, d⟩, h3⟩ => ⟨x, h1, ⟨p, vs, a, b, c, L2.Paired.mapP d fun _ _ z => z⟩, h3⟩
/-- a promise about things that stand still, used with an object of one owner -/
theorem Core.borrow {p : Addr} {O : OTy α} {s : SV} {R : SV} {Li Lr : List En} (c : Core B H (((some (.ref p), own (.ref p) O a) :: Li) ++ Lr)) (hO : ∀ F H x fp, O.rep F H x fp a → ∃ p, x = .ref p ∧ fp = [p])
    (hs : ∀ F o, Same F H → H p = some o → O.rep F H (.ref p) [p] a → s.ok [] (upd F p o) H (some (.ref p)) []) (hp : ∀ e ∈ Li, Fr e.2) (hn : ∀ {io : List Addr} {F H : Hp} {e : En} {fp : List Addr}, e ∈ Li → e.2.ok io F H e.1 fp → fp = []) (hR : Ff R) :
    ∃ F fi, fi.flatten = [] ∧ Pre F H ((some (.ref p), s) :: Li) fi ∧ ∀ H' v, Core ⟨F, H, fi.flatten⟩ H' [(some v, R)] → Core B H' ((some v, R) :: (some (.ref p), own (.ref p) O a) :: Lr) := by
  obtain ⟨F, fi, pr, k⟩ := c.frame (fun e he => by
    rcases List.mem_cons.mp he with rfl | he
    · exact fr_own
    · exact hp e he)
  cases fi with
  | nil => exact pr.sl.elim
  | cons fp fs =>
    obtain ⟨⟨_, hr⟩, hrest⟩ := pr.sl
    obtain ⟨p', e1, e2⟩ := hO F H _ fp hr
    cases e1
    subst e2
    have fl : fs.flatten = [] := by
      have : ∀ {L : List En} {fs : List (List Addr)} {io : List Addr}, (∀ e ∈ L, ∀ {io : List Addr} {F H : Hp} {fp : List Addr}, e.2.ok io F H e.1 fp → fp = []) → Sl io F H L fs → fs.flatten = [] := by
        intro L
        induction L with
        | nil => intro fs io _ h; cases fs with
          | nil => rfl
          | cons _ _ => exact h.elim
        | cons e L ih => intro fs io hn h; cases fs with
          | nil => exact h.elim
          | cons fp fs =>
            rw [List.flatten_cons, hn e List.mem_cons_self h.1, ih (fun e he => hn e (List.mem_cons_of_mem _ he)) h.2]
            rfl
      exact this (fun e he => hn he) hrest
    obtain ⟨f0, ⟨o, ho⟩⟩ := pr.ow p (by rw [List.flatten_cons]; exact List.mem_append_left _ List.mem_cons_self)
    have sf : Same F (upd F p o) := fun x u e => by rw [upd_ne (ne_of_none e f0)]; exact e
    refine ⟨upd F p o, [] :: fs, by rw [List.flatten_cons, fl]; rfl, ⟨fun x u e => ?_, ⟨?_, ?_⟩, ?_, fun q hq => ?_⟩, fun H' v d => ?_⟩
    · by_cases hx : x = p
      · subst hx; rw [upd_same] at e; cases e; exact ho
      · rw [upd_ne hx] at e; exact pr.fh x u e
    · have z : ([] :: fs : List (List Addr)).flatten = [] := by rw [List.flatten_cons, fl]; rfl
      rw [z]
      exact hs F o pr.fh ho hr
    · exact (Sl.free hp hrest).stab sf fun _ _ => rfl
    · rw [List.flatten_cons, fl]; exact List.nodup_nil
    · rw [List.flatten_cons, fl] at hq; cases hq
    · have z : ([] :: fs : List (List Addr)).flatten = [] := by rw [List.flatten_cons, fl]; rfl
      rw [z] at d
      have z2 : ([p] :: fs : List (List Addr)).flatten = [p] := by rw [List.flatten_cons, fl]; rfl
      obtain ⟨F', fs', d⟩ := d
      match fs', d with
      | [], d => exact d.sl.elim
      | _ :: _ :: _, d => exact d.sl.2.elim
      | [fr], d =>
        have dkp : ∀ x o, H x = some o → x ∉ ([] : List Addr) → H' x = some o := d.kp
        have dnc : ∀ x o', upd F p o x = none → H x = some o' → F' x = none := d.nc
        have dow : ∀ q ∈ ([fr] : List (List Addr)).flatten, F' q = none ∧ (∃ o, H' q = some o) ∧ (q ∈ ([] : List Addr) ∨ H q = none) := d.ow
        have frf : ([fr] : List (List Addr)).flatten = fr := by simp
        rw [frf] at dow
        have dfr : Same (upd F p o) F' := d.fr
        have sFF : Same F (fun y => if y = p then none else F' y) := fun x u e => by
          have hx := ne_of_none e f0
          show (if x = p then none else F' x) = some u
          rw [if_neg hx]
          exact dfr x u (sf x u e)
        have np : p ∉ fr := fun q => by
          have := (dow p q).1
          rw [dfr p o upd_same] at this
          cases this
        refine k H' [(some v, R), (some (.ref p), own (.ref p) O a)] ⟨fun y => if y = p then none else F' y, [fr, [p]], sFF, fun x u e => ?_, fun x u e _ => dkp x u e (fun z => by cases z), fun x u e => ⟨u, dkp x u e (fun z => by cases z)⟩, fun x u h1 h2 => ?_, fun q hq => ?_, ⟨?_, ⟨rfl, ?_⟩, trivial⟩, ?_, fun q hq => ?_⟩
        · by_cases hx : x = p
          · subst hx; rw [if_pos rfl] at e; cases e
          · rw [if_neg hx] at e; exact d.fh x u e
        · show (if x = p then none else F' x) = none
          by_cases hx : x = p
          · rw [if_pos hx]
          · rw [if_neg hx]; exact dnc x u (by rw [upd_ne hx]; exact h1) h2
        · have hq' : q ∈ ([p] :: fs : List (List Addr)).flatten := hq
          rw [z2] at hq'
          rw [List.mem_singleton.mp hq']
          exact ⟨o, ho⟩
        · have h1 : R.ok [] F' H' (some v) fr := d.sl.1
          refine SV.ioch R (hR h1) fun q hq _ hq2 => ?_
          have hq' : q ∈ ([p] :: fs : List (List Addr)).flatten := hq2
          rw [z2] at hq'
          rw [List.mem_singleton.mp hq'] at hq
          exact np hq
        · exact O.stab hr sFF fun q hq => by
            rw [List.mem_singleton.mp hq, ho]
            exact dkp p o ho (fun z => by cases z)
        · have : ([fr, [p]] : List (List Addr)).flatten = fr ++ [p] := by simp
          rw [this]
          refine List.nodup_append.mpr ⟨by have := d.nd; rw [frf] at this; exact this, by simp, fun x hx y hy e => ?_⟩
          rw [List.mem_singleton.mp hy] at e
          exact np (e ▸ hx)
        · have : ([fr, [p]] : List (List Addr)).flatten = fr ++ [p] := by simp
          rw [this] at hq
          rcases List.mem_append.mp hq with hq | hq
          · obtain ⟨h1, h2, h3⟩ := dow q hq
            refine ⟨?_, h2, .inr (h3.elim (fun z => by cases z) id)⟩
            show (if q = p then none else F' q) = none
            rw [if_neg (fun (z : q = p) => np (z ▸ hq))]; exact h1
          · rw [List.mem_singleton.mp hq]
            refine ⟨?_, ⟨o, dkp p o ho (fun z => by cases z)⟩, .inl ?_⟩
            · show (if p = p then none else F' p) = none
              rw [if_pos rfl]
            · show p ∈ ([p] :: fs : List (List Addr)).flatten
              rw [z2]; exact List.mem_cons_self
end
end Sw
/-! text Sw9 -/
set_option maxHeartbeats 4000000
namespace Sw
open PySem L2
variable {α β γ δ κ : Type}
section
variable {B : Bas} {H H' : Hp} {σ : L2.St} {ρ ρ1 ρ2 ρ3 ρ' : List SV} {τ : List En} {L L1 L2' : List En} {R S1 S2 S : SV} {ta tb te tl td tk tv : TE} {tt tu : TT} {as : TA} {a : α} {b : β} {c : γ} {T : Ty α} {U : Ty β} {W : Ty γ} {i j : Nat} {K : PySem.W.Frag} {N : Kn} {A : Type}
/-- into a comprehension's block, the own name in slot j -/
theorem blk_in {I : List SV} {Sj : SV} {v : V} {τ' : List En} (hl : σ.length = I.length) (h1 : I[j]? = some Sj) (c : Core B H ((some v, R) :: (τ' ++ σ.zip I))) :
    ∃ vj, σ[j]? = some vj ∧ St B H ((wipe σ [j]).set j (some v)) (I.set j R) ((vj, Sj) :: τ') := by
  obtain ⟨vj, e1, l, p1, p2, p3⟩ := zip_perm hl h1
  have es : (wipe σ [j]).set j (some v) = σ.set j (some v) := by
    show (σ.set j none).set j (some v) = _
    rw [List.set_set]
  refine ⟨vj, e1, ?_⟩
  rw [es]
  refine ⟨by rw [List.length_set, List.length_set]; exact hl, ?_⟩
  have q1 : ((some v, R) :: (τ' ++ σ.zip I)).Perm ((some v, R) :: (vj, Sj) :: (τ' ++ l)) := (perm_top τ' p1).cons _
  have q2 : (((vj, Sj) :: τ') ++ (σ.set j (some v)).zip (I.set j R)).Perm ((some v, R) :: (vj, Sj) :: (τ' ++ l)) := perm_top ((vj, Sj) :: τ') (p3 _ _)
  exact c.perm (q1.trans q2.symm)
/-- .. and out again -/
theorem blk_out {I' : List SV} {Sj S' : SV} {v : V} {vj : Option V} {τ' Es : List En} (hl : σ.length = I'.length) (hv : σ[j]? = some vj) (h2 : I'[j]? = some Sj) (c : Core B H (Es ++ (((vj, Sj) :: τ') ++ ((wipe σ [j]).set j (some v)).zip (I'.set j S')))) :
    Core B H (Es ++ (τ' ++ σ.zip I')) := by
  obtain ⟨vj', e1', l', p1', p2', p3'⟩ := zip_perm hl h2
  rw [hv] at e1'
  cases e1'
  have es : (wipe σ [j]).set j (some v) = σ.set j (some v) := by
    show (σ.set j none).set j (some v) = _
    rw [List.set_set]
  rw [es] at c
  have q2 : (((vj, Sj) :: τ') ++ (σ.set j (some v)).zip (I'.set j S')).Perm ((some v, S') :: (vj, Sj) :: (τ' ++ l')) := perm_top ((vj, Sj) :: τ') (p3' _ _)
  have q3 : (Es ++ (((vj, Sj) :: τ') ++ (σ.set j (some v)).zip (I'.set j S'))).Perm ((some v, S') :: (Es ++ ((vj, Sj) :: (τ' ++ l')))) := (List.Perm.append_left Es q2).trans List.perm_middle
  have c2 := (c.perm q3).cut
  exact c2.perm (List.Perm.append_left Es (perm_top τ' p1')).symm
/-- over a list that stays -/
theorem dc_list {K : PySem.W.Frag} {a : Addr} {xs : List V} {g : TG} {tt : TT} {tk tv : TE} {vs : List Nat} {σ : L2.St} {H1 : Hp} {D : Addr} {Qd : Hp → Prop} (Pv : Nat → Hp → Prop) (h0 : Pv 0 (upd H1 D (.dK []))) (hl : ∀ i H, i ≤ xs.length → Pv i H → SqL K H a xs)
    (hs : ∀ i x H, xs[i]? = some x → Pv i H → g x (wipe σ vs) H fun σ2 H2 => wipe σ2 vs = wipe σ vs ∧ tt σ2 H2 fun b H3 =>
      if b = true then tk σ2 H3 fun y H4 => tv σ2 H4 fun z H5 => ∃ kvs k, y = kV k ∧ H5 D = some (.dK kvs) ∧ kvs.length < sizeLine ∧ Pv (i + 1) (upd H5 D (.dK (putK kvs k z))) else Pv (i + 1) H3) (hd : ∀ H, Pv xs.length H → Qd H) :
    ∃ W : Nat → Nat → Hp → Prop, (∃ m, W 0 m (upd H1 D (.dK []))) ∧ ∀ i m H, W i m H →
      ((Itl K a).stop i H ∧ Qd H) ∨ ((Itl K a).go i H ∧ ∃ Nx : Hp → Prop, (∀ H', Nx H' → ∃ m', m' < m ∧ W (i + 1) m' H') ∧ ∀ x H', (Itl K a).yld i H x H' → g x (wipe σ vs) H' fun σ2 H2 => wipe σ2 vs = wipe σ vs ∧ tt σ2 H2 fun b H3 =>
        if b = true then tk σ2 H3 fun y H4 => tv σ2 H4 fun z H5 => ∃ kvs k, y = kV k ∧ H5 D = some (.dK kvs) ∧ kvs.length < sizeLine ∧ Nx (upd H5 D (.dK (putK kvs k z))) else Nx H3) := by
  refine ⟨fun i m H => m = xs.length - i ∧ i ≤ xs.length ∧ Pv i H, ⟨xs.length, by simp, Nat.zero_le _, h0⟩, ?_⟩
  rintro i m H ⟨rfl, hi, p⟩
  have q := hl i H hi p
  by_cases hlt : i < xs.length
  · refine .inr ⟨⟨xs, xs[i], q, by simp [hlt]⟩, Pv (i + 1), fun H' p' => ⟨xs.length - (i + 1), by omega, rfl, hlt, p'⟩, fun x H' y => ?_⟩
    obtain ⟨e, y⟩ := y
    subst e
    exact hs i x _ (y xs q) p
  · have e : i = xs.length := by omega
    subst e
    exact .inl ⟨⟨xs, q, Nat.le_refl _⟩, hd H p⟩
/-- what a dict comprehension has made of the first i items -/
def accD (p : α → Bool) (k : α → Str) (v : α → β) (xs : List α) : List (Str × β) := xs.foldl (fun d x => if p x = true then dPut d (k x) (v x) else d) []
theorem dPut_len (d : List (Str × α)) (k : Str) (v : α) : (dPut d k v).length ≤ d.length + 1 := by
  unfold dPut
  split
  · rw [List.length_map]; omega
  · rw [List.length_append]; exact Nat.le_refl _
theorem accD_snoc {p : α → Bool} {k : α → Str} {v : α → β} {xs : List α} {x : α} : accD p k v (xs ++ [x]) = if p x = true then dPut (accD p k v xs) (k x) (v x) else accD p k v xs := by
  unfold accD
  rw [List.foldl_append]
  rfl
theorem accD_len (p : α → Bool) (k : α → Str) (v : α → β) : ∀ (n : Nat) (xs : List α), (accD p k v (xs.take n)).length ≤ n
  | 0, xs => by rw [List.take_zero]; exact Nat.le_refl _
  | n + 1, xs => by
    by_cases h : n < xs.length
    · rw [List.take_succ_eq_append_getElem h, accD_snoc]
      have := accD_len p k v n xs
      split
      · exact Nat.le_trans (dPut_len _ _ _) (by omega)
      · omega
    · rw [List.take_of_length_le (by omega), ← List.take_of_length_le (i := n) (l := xs) (by omega)]
      exact Nat.le_succ_of_le (accD_len p k v n xs)
/-- a write to an owned object on top, read off two temps below -/
theorem Core.put2 {D : Addr} {O : OTy κ} {k0 k1 : κ} {o : HO} {x y : V} {e1 e2 : En} (c : Core B H ((some x, dat T a) :: (some y, dat U b) :: (some (.ref D), own (.ref D) O k0) :: L))
    (ok : ∀ F fp, Same F H → T.rep F x a → U.rep F y b → O.rep F H (.ref D) fp k0 → D ∈ fp ∧ O.rep F (upd H D o) (.ref D) fp k1) : Core B (upd H D o) ((some (.ref D), own (.ref D) O k1) :: L) := by
  obtain ⟨F, fs, cc⟩ := c.perm (show ((some x, dat T a) :: (some y, dat U b) :: (some (V.ref D), own (.ref D) O k0) :: L).Perm ((some (V.ref D), own (.ref D) O k0) :: (some x, dat T a) :: (some y, dat U b) :: L) from
    ((List.Perm.swap _ _ _).cons _).trans (List.Perm.swap _ _ _))
  match fs, cc with
  | [], cc => exact cc.sl.elim
  | [_], cc => exact cc.sl.2.elim
  | [_, _], cc => exact cc.sl.2.2.elim
  | fp :: f1 :: f2 :: fs, cc =>
    obtain ⟨⟨_, h0⟩, ⟨z1, x', ex, h1⟩, ⟨z2, y', ey, h2⟩, h3⟩ := cc.sl
    cases ex; cases ey
    obtain ⟨hm, hn⟩ := ok F fp cc.fh h1 h2 h0
    have ow := cc.ow
    have nd := cc.nd
    have mem : D ∈ (fp :: f1 :: f2 :: fs).flatten := by rw [List.flatten_cons]; exact List.mem_append_left _ hm
    obtain ⟨f0, ⟨u0, hu0⟩, w0⟩ := ow D mem
    rw [List.flatten_cons] at nd
    obtain ⟨m1, m2, m3⟩ := List.nodup_append.mp nd
    have some' : ∀ x u, H x = some u → ∃ u', upd H D o x = some u' := fun x u e => by
      by_cases hx : x = D
      · exact ⟨_, by rw [hx]; exact upd_same⟩
      · exact ⟨u, by rw [upd_ne hx]; exact e⟩
    have c2 : Core B (upd H D o) ((some (.ref D), own (.ref D) O k1) :: (some x, dat T a) :: (some y, dat U b) :: L) := by
      refine ⟨F, fp :: f1 :: f2 :: fs, cc.fr, fun x u e => ?_, fun x u e n => ?_, fun x u e => ?_, cc.nc, cc.il, ⟨⟨rfl, hn⟩, cc.sl.2.stab (Same.refl _) fun q hq => ?_⟩, cc.nd, fun q hq => ?_⟩
      · rw [upd_ne (ne_of_none e f0)]; exact cc.fh x u e
      · have hx : x ≠ D := fun z => by
          rcases w0 with h | h
          · exact n (z ▸ h)
          · rw [z, h] at e; cases e
        rw [upd_ne hx]; exact cc.kp x u e n
      · obtain ⟨u', e'⟩ := cc.lv x u e
        exact some' x u' e'
      · exact upd_ne fun z => m3 D hm q hq z.symm
      · obtain ⟨h1, ⟨u, hu⟩, h3⟩ := cc.ow q hq
        exact ⟨h1, some' q u hu, h3⟩
    exact (c2.swap.cut).swap.cut
/-- {k: v for x in a list if ..}, turns that leave the state as it is -/
theorem fr_dcL {xs : List α} (p : α → Bool) (k : α → Str) (v : α → β) (h : EvE B ρ tl (dat (tRow K T) xs) ρ) (hj : j < ρ.length) (hz : xs.length ≤ 1000000)
    (ht : ∀ x ∈ xs, EvT B (ρ.set j (dat T x)) tt (p x) (ρ.set j (dat T x))) (hk : ∀ x ∈ xs, p x = true → EvE B (ρ.set j (dat T x)) tk (dat tStr (k x)) (ρ.set j (dat T x))) (hv : ∀ x ∈ xs, p x = true → EvE B (ρ.set j (dat T x)) tv (dat U (v x)) (ρ.set j (dat T x))) :
    EvE B ρ (tDc (iList K tl) (gName j) tt tk tv [j]) (fre (oDic U) (accD p k v xs)) ρ := fun H σ τ Q st q =>
  h H σ τ _ st fun w H1 st1 => by
    obtain ⟨r, vs, rfl, hl, hq, st2⟩ := st1.row
    have hσ := st1.len
    have hjs : ρ[j]? = some ρ[j] := List.getElem?_eq_getElem hj
    refine ⟨r, rfl, ⟨vs, hq⟩, fun D hD => dc_list (K := K) (a := r) (xs := vs) (fun i H' => Core B H' ((some (.ref D), own (.ref D) (oDic U) (accD p k v (xs.take i))) :: (some (.ref r), dat (tRowAt K T r vs) xs) :: (τ ++ σ.zip ρ)) ∧ D ∉ B.io) ?_ ?_ ?_ ?_⟩
    · have c : Core B H1 ((some (.ref r), dat (tRowAt K T r vs) xs) :: (τ ++ σ.zip ρ)) := st2.core
      obtain ⟨F, fs, cc⟩ := id c
      exact ⟨c.allocO (o := .dK []) (s := own (.ref D) (oDic U) (accD p k v (xs.take 0))) hD fun F _ _ => ⟨rfl, D, [], rfl, rfl, upd_same, .nil⟩, cc.noio hD⟩
    · rintro i H' _ ⟨c, _⟩
      exact c.cut.rowq
    · rintro i y H' hy ⟨c, hn⟩
      obtain ⟨x, hx, c2⟩ := (c.swap).rowi hy
      obtain ⟨hi, hxi⟩ := List.getElem?_eq_some_iff.mp hx
      have hmem : x ∈ xs := List.mem_of_getElem? hx
      have tk1 : xs.take (i + 1) = xs.take i ++ [x] := by rw [List.take_succ_eq_append_getElem hi, hxi]
      have c3 : Core B H' ((some y, dat T x) :: ([(some (.ref D), own (.ref D) (oDic U) (accD p k v (xs.take i))), (some (.ref r), dat (tRowAt K T r vs) xs)] ++ τ ++ σ.zip ρ)) := c2.perm ((List.Perm.swap _ _ _).cons _)
      obtain ⟨vj, e1, base⟩ := blk_in (τ' := [(some (.ref D), own (.ref D) (oDic U) (accD p k v (xs.take i))), (some (.ref r), dat (tRowAt K T r vs) xs)] ++ τ) hσ hjs c3
      show wipe ((wipe σ [j]).set j (some y)) [j] = wipe σ [j] ∧ _
      refine ⟨wipe1 σ j (some y), ?_⟩
      refine ht x hmem H' _ _ _ base fun H3 st3 => ?_
      cases hp : p x with
      | false =>
        show Core B H3 _ ∧ _
        refine ⟨?_, hn⟩
        rw [tk1, accD_snoc, hp]
        have z := blk_out (Es := []) (S' := dat T x) (I' := ρ) (σ := σ) (v := y) (τ' := [(some (.ref D), own (.ref D) (oDic U) (accD p k v (xs.take i))), (some (.ref r), dat (tRowAt K T r vs) xs)] ++ τ) hσ e1 hjs st3.core
        exact z
      | true =>
        show tk _ H3 _
        refine hk x hmem hp H3 _ _ _ st3 fun ky H4 st4 => hv x hmem hp H4 _ _ _ st4 fun vy H5 st5 => ?_
        have z := blk_out (Es := [(some vy, dat U (v x)), (some ky, dat tStr (k x))]) (S' := dat T x) (I' := ρ) (σ := σ) (v := y) (τ' := [(some (.ref D), own (.ref D) (oDic U) (accD p k v (xs.take i))), (some (.ref r), dat (tRowAt K T r vs) xs)] ++ τ) hσ e1 hjs st5.core
        have z2 : Core B H5 ((some vy, dat U (v x)) :: (some ky, dat tStr (k x)) :: (some (.ref D), own (.ref D) (oDic U) (accD p k v (xs.take i))) :: (some (.ref r), dat (tRowAt K T r vs) xs) :: (τ ++ σ.zip ρ)) := z
        obtain ⟨F, x1, x2, _, e1, e2, _, e3⟩ := z2.d2
        cases e1; cases e2; cases e3
        obtain ⟨_, _, _, _, p', ws, f1, f2, f3, f4⟩ := z2.cut2.o1
        cases f1
        refine ⟨ws, Sum.inr (k x), rfl, f3, Nat.lt_of_le_of_lt (by rw [f4.length]; exact Nat.le_trans (accD_len p k v i xs) (by omega)) (show 1000000 < sizeLine by decide), ?_, hn⟩
        rw [tk1, accD_snoc, hp]
        refine z2.put2 (e1 := (none, any)) (e2 := (none, any)) fun F fp _ r1 _ ⟨p', ws', g1, g2, g3, g4⟩ => ?_
        cases g1
        rw [f3] at g3
        cases g3
        exact ⟨by rw [g2]; exact List.mem_cons_self, D, _, rfl, g2, upd_same, kv_put g4 r1⟩
    · rintro H' ⟨c, hn⟩
      rw [hl, List.take_length] at c
      refine q _ H' ⟨hσ, ?_⟩
      have c2 : Core B H' ((some (.ref D), own (.ref D) (oDic U) (accD p k v xs)) :: (τ ++ σ.zip ρ)) := c.swap.cut
      exact c2.weak fun F fp _ ⟨h1, h2⟩ => .inl ⟨.ref D, rfl, h2, fun q hq => by
        obtain ⟨p', _, h5, h6, _⟩ := h2
        cases h5
        rw [h6] at hq
        rw [List.mem_singleton.mp hq]
        exact hn⟩
/-- the keys of a dict made so -/
theorem dHas_put (d : List (Str × α)) (k k' : Str) (v : α) : dHas (dPut d k v) k' = (dHas d k' || decide (k = k')) := by
  unfold dPut
  by_cases h : dHas d k = true
  · rw [if_pos h]
    have e : dHas (d.map fun q => if q.1 = k then (q.1, v) else q) k' = dHas d k' := by
      unfold dHas
      rw [List.any_map]
      congr 1
      funext q
      show decide ((if q.1 = k then (q.1, v) else q).1 = k') = _
      split <;> rfl
    rw [e]
    by_cases hk : k = k'
    · subst hk; rw [h]; rfl
    · rw [decide_eq_false hk, Bool.or_false]
  · rw [if_neg h]
    unfold dHas
    rw [List.any_append]
    simp
theorem dHas_acc (p : α → Bool) (k : α → Str) (v : α → β) (xs : List α) (k' : Str) : dHas (accD p k v xs) k' = xs.any fun x => p x && decide (k x = k') := by
  have key : ∀ (xs : List α) (d : List (Str × β)), dHas (xs.foldl (fun d x => if p x = true then dPut d (k x) (v x) else d) d) k' = (dHas d k' || xs.any fun x => p x && decide (k x = k')) := by
    intro xs
    induction xs with
    | nil => intro d; simp
    | cons x xs ih =>
      intro d
      rw [List.foldl_cons, ih, List.any_cons]
      cases hp : p x with
      | true => rw [if_pos rfl, dHas_put, Bool.or_assoc, Bool.true_and]
      | false => rw [if_neg Bool.false_ne_true, Bool.false_and, Bool.false_or]
  have := key xs []
  unfold accD
  rw [this]
  rfl
end
end Sw
/-! text Sw10 -/
set_option maxHeartbeats 4000000
namespace Sw
open PySem L2
variable {α β γ δ κ S : Type}
theorem nt {b : Bool} (h : b = false) : ¬ b = true := by rw [h]; exact Bool.false_ne_true
/-- an item by its place -/
def ixD [Inhabited α] (xs : List α) (i : Int) : α := (atI xs i).getD default
theorem atI_some [Inhabited α] {xs : List α} {i : Int} (h0 : 0 ≤ i) (h1 : i < xs.length) : atI xs i = some (ixD xs i) := by
  unfold ixD
  have : atI xs i = some xs[i.toNat] := by
    unfold atI ixN
    rw [if_pos h0, if_pos h1]
    show xs[i.toNat]? = _
    exact List.getElem?_eq_getElem (by omega)
  rw [this]; rfl
theorem ixD_nat [Inhabited α] {xs : List α} {i : Nat} (h : i < xs.length) : ixD xs (i : Int) = xs[i] := by
  unfold ixD atI ixN
  rw [if_pos (Int.natCast_nonneg i), if_pos (by omega)]
  show (xs[(i : Int).toNat]?).getD default = _
  rw [Int.toNat_natCast, List.getElem?_eq_getElem h]; rfl
section
variable {B : Bas} {H H' : Hp} {σ : L2.St} {ρ ρ1 ρ2 ρ3 ρ' ρj : List SV} {τ : List En} {L L1 L2' : List En} {R S1 S2 : SV} {ta tb te tl td tk tv : TE} {tt tu : TT} {as : TA} {a b c : α} {T : Ty α} {U : Ty β} {W : Ty γ} {i j k : Nat} {K : PySem.W.Frag} {N : Kn} {A : Type}
/-- slot by slot the same, or forgotten -/
inductive EntL : List SV → List SV → Prop
  | nil : EntL [] []
  | keep {s : SV} {r r' : List SV} (h : EntL r r') : EntL (s :: r) (s :: r')
  | forget {s : SV} {r r' : List SV} (h : EntL r r') : EntL (s :: r) (any :: r')
theorem EntL.keepE {s s' : SV} {r r' : List SV} (e : s = s') (h : EntL r r') : EntL (s :: r) (s' :: r') := e ▸ .keep h
theorem EntL.refl : ∀ {r : List SV}, EntL r r
  | [] => .nil
  | _ :: _ => .keep .refl
theorem EntL.len {r r' : List SV} (h : EntL r r') : r.length = r'.length := by
  induction h with
  | nil => rfl
  | keep _ ih => rw [List.length_cons, List.length_cons, ih]
  | forget _ ih => rw [List.length_cons, List.length_cons, ih]
theorem EntL.core {r r' : List SV} (h : EntL r r') : ∀ {σ : L2.St} {τ : List En}, Core B H (τ ++ σ.zip r) → Core B H (τ ++ σ.zip r') := by
  induction h with
  | nil => exact fun h => h
  | @keep s r r' h ih =>
    intro σ τ c
    cases σ with
    | nil => exact c
    | cons v σ =>
      have c1 : Core B H ((τ ++ [(v, s)]) ++ σ.zip r) := by rw [List.append_assoc]; exact c
      have c2 := ih c1
      rw [List.append_assoc] at c2
      exact c2
  | @forget s r r' h ih =>
    intro σ τ c
    cases σ with
    | nil => exact c
    | cons v σ =>
      have c0 : Core B H ((v, s) :: (τ ++ σ.zip r)) := c.perm List.perm_middle
      have c1 : Core B H ((v, any) :: (τ ++ σ.zip r)) := c0.weak fun _ _ _ _ => .inr rfl
      have c2 : Core B H ((((v, any) :: τ)) ++ σ.zip r') := ih c1
      exact c2.perm (List.perm_middle (l₁ := τ) (l₂ := σ.zip r') (a := (v, any))).symm
theorem EntL.ent {r r' : List SV} (h : EntL r r') : Ent B r r' := fun H σ τ st => ⟨st.len.trans h.len, h.core st.core⟩
/-- a statement whose ways meet -/
theorem ex_seqJ {t u : TS} (ρj : List SV) (h : ExS B ρ t { N with nx := fun ρ' => EntL ρ' ρj }) (k : ExS B ρj u N) : ExS B ρ (tSeq t u) N := fun H σ τ D st h1 h2 h3 h4 =>
  h H σ τ { D with nx := u D } st (fun ρ' H' σ' e st' => k H' σ' τ D (e.ent H' σ' τ st') h1 h2 h3 h4) h2 h3 h4
/-- loops as folds over a state -/
theorem ex_forLF {tb : TS} {xs : List α} (ρI : S → List SV) (step : S → α → S) (s0 : S) (h : EvE B ρ tl (dat (tRow K T) xs) ρ1) (h0 : EntL ρ1 (ρI s0)) (hj : ∀ s, j < (ρI s).length)
    (hs : ∀ (pre post : List α) (x : α), xs = pre ++ x :: post → ExS B ((ρI (pre.foldl step s0)).set j (dat T x)) tb { N with nx := fun ρ' => EntL ρ' (ρI (step (pre.foldl step s0) x)), ct := fun ρ' => EntL ρ' (ρI (step (pre.foldl step s0) x)), bk := N.nx })
    (hd : N.nx (ρI (xs.foldl step s0))) : ExS B ρ (tFor (iList K tl) (gName j) tb) N := fun H σ τ D st k1 k2 k3 k4 =>
  h H σ τ _ st fun v H1 st1 => by
    obtain ⟨p, vs, rfl, hl, hq, st2⟩ := st1.row
    refine ⟨p, rfl, ⟨vs, hq⟩, for_list (K := K) (a := p) (xs := vs) (fun i σ' H' => St B H' σ' (ρI ((xs.take i).foldl step s0)) ((some (.ref p), dat (tRowAt K T p vs) xs) :: τ)) (by rw [List.take_zero]; exact h0.ent _ _ _ st2) ?_ ?_ ?_⟩
    · rintro i σ' H' _ st'
      exact st'.core.rowq
    · rintro i y σ' H' hy st'
      obtain ⟨x, hx, c⟩ := (show Core B H' ((some (.ref p), dat (tRowAt K T p vs) xs) :: (τ ++ σ'.zip _)) from st'.core).rowi hy
      obtain ⟨hi, hxi⟩ := List.getElem?_eq_some_iff.mp hx
      have e1 : xs.take (i + 1) = xs.take i ++ [x] := by rw [List.take_succ_eq_append_getElem hi, hxi]
      have e2 : xs = xs.take i ++ x :: xs.drop (i + 1) := by rw [← hxi, List.getElem_cons_drop, List.take_append_drop]
      have e3 : (xs.take (i + 1)).foldl step s0 = step ((xs.take i).foldl step s0) x := by rw [e1, List.foldl_append]; rfl
      exact hs _ _ x e2 H' _ ((some (.ref p), dat (tRowAt K T p vs) xs) :: τ) _ (St.asg ⟨st'.len, c⟩ (hj _)) (fun ρ2 H2 σ2 e st2 => by show St _ _ _ _ _; rw [e3]; exact e.ent _ _ _ st2) (fun R ρ2 v H2 σ2 k st2 => k2 R ρ2 v H2 σ2 k st2.cut2) (fun ρ2 H2 σ2 k st2 => k1 ρ2 H2 σ2 k st2.cut) (fun ρ2 H2 σ2 e st2 => by show St _ _ _ _ _; rw [e3]; exact e.ent _ _ _ st2)
    · rintro σ' H' st'
      rw [hl, List.take_length] at st'
      exact k1 _ H' σ' hd st'.cut
theorem ex_forTF {tb : TS} {xs : List α} (ρI : S → List SV) (step : S → α → S) (s0 : S) (h : EvE B ρ tl (dat (tTupL K T) xs) ρ1) (h0 : EntL ρ1 (ρI s0)) (hj : ∀ s, j < (ρI s).length)
    (hs : ∀ (pre post : List α) (x : α), xs = pre ++ x :: post → ExS B ((ρI (pre.foldl step s0)).set j (dat T x)) tb { N with nx := fun ρ' => EntL ρ' (ρI (step (pre.foldl step s0) x)), ct := fun ρ' => EntL ρ' (ρI (step (pre.foldl step s0) x)), bk := N.nx })
    (hd : N.nx (ρI (xs.foldl step s0))) : ExS B ρ (tFor (iTup K tl) (gName j) tb) N := fun H σ τ D st k1 k2 k3 k4 =>
  h H σ τ _ st fun v H1 st1 => by
    obtain ⟨p, vs, rfl, hl, hq, st2⟩ := st1.tupl
    refine ⟨p, rfl, ⟨vs, hq⟩, for_tup (K := K) (a := p) (xs := vs) (fun i σ' H' => St B H' σ' (ρI ((xs.take i).foldl step s0)) ((some (.ref p), dat (tTupAt K T p vs) xs) :: τ)) (by rw [List.take_zero]; exact h0.ent _ _ _ st2) ?_ ?_ ?_⟩
    · rintro i σ' H' _ st'
      exact st'.core.tupq
    · rintro i y σ' H' hy st'
      obtain ⟨x, hx, c⟩ := (show Core B H' ((some (.ref p), dat (tTupAt K T p vs) xs) :: (τ ++ σ'.zip _)) from st'.core).tupi hy
      obtain ⟨hi, hxi⟩ := List.getElem?_eq_some_iff.mp hx
      have e1 : xs.take (i + 1) = xs.take i ++ [x] := by rw [List.take_succ_eq_append_getElem hi, hxi]
      have e2 : xs = xs.take i ++ x :: xs.drop (i + 1) := by rw [← hxi, List.getElem_cons_drop, List.take_append_drop]
      have e3 : (xs.take (i + 1)).foldl step s0 = step ((xs.take i).foldl step s0) x := by rw [e1, List.foldl_append]; rfl
      exact hs _ _ x e2 H' _ ((some (.ref p), dat (tTupAt K T p vs) xs) :: τ) _ (St.asg ⟨st'.len, c⟩ (hj _)) (fun ρ2 H2 σ2 e st2 => by show St _ _ _ _ _; rw [e3]; exact e.ent _ _ _ st2) (fun R ρ2 v H2 σ2 k st2 => k2 R ρ2 v H2 σ2 k st2.cut2) (fun ρ2 H2 σ2 k st2 => k1 ρ2 H2 σ2 k st2.cut) (fun ρ2 H2 σ2 e st2 => by show St _ _ _ _ _; rw [e3]; exact e.ent _ _ _ st2)
    · rintro σ' H' st'
      rw [hl, List.take_length] at st'
      exact k1 _ H' σ' hd st'.cut
def foldN (step : S → Nat → S) (s0 : S) : Nat → S
  | 0 => s0
  | n + 1 => step (foldN step s0 n) n
theorem ex_forRF {tb : TS} {n : Int} (ρI : S → List SV) (step : S → Nat → S) (s0 : S) (h : EvA B ρ as [dat tInt n] ρ1) (hn : -(2 ^ 62) ≤ n ∧ n < 2 ^ 62) (h0 : EntL ρ1 (ρI s0)) (hj : ∀ s, j < (ρI s).length)
    (hs : ∀ (x : Nat), x < n.toNat → ExS B ((ρI (foldN step s0 x)).set j (dat tInt (x : Int))) tb { N with nx := fun ρ' => EntL ρ' (ρI (foldN step s0 (x + 1))), ct := fun ρ' => EntL ρ' (ρI (foldN step s0 (x + 1))), bk := N.nx })
    (hd : N.nx (ρI (foldN step s0 n.toNat))) : ExS B ρ (tFor (iRng1 as) (gName j) tb) N := fun H σ τ D st k1 k2 k3 k4 =>
  h H σ τ _ st fun vs H1 hl st1 => by
    match vs, hl, st1 with
    | [v], _, st1 =>
      obtain ⟨F, x, _, e1, e2⟩ := (show Core B H1 ((some v, dat tInt n) :: (τ ++ σ.zip ρ1)) from st1.core).d1
      cases e1
      cases e2
      refine ⟨n, rfl, hn.1, hn.2, for_range (lo := 0) (n := n.toNat) (fun i σ' H' => St B H' σ' (ρI (foldN step s0 i)) τ) (h0.ent _ _ _ (St.cut st1)) ?_ ?_⟩
      · rintro i σ' H' hi st'
        have c : Core B H' ((some (.int (0 + (i : Int))), dat tInt (i : Int)) :: (τ ++ σ'.zip (ρI (foldN step s0 i)))) := st'.core.sc (fun F => by show V.int (0 + (i : Int)) = V.int (i : Int); rw [Int.zero_add])
        exact hs i hi H' _ τ _ (St.asg ⟨st'.len, c⟩ (hj _)) (fun ρ2 H2 σ2 e st2 => e.ent _ _ _ st2) (fun R ρ2 v H2 σ2 k st2 => k2 R ρ2 v H2 σ2 k st2) (fun ρ2 H2 σ2 k st2 => k1 ρ2 H2 σ2 k st2) (fun ρ2 H2 σ2 e st2 => e.ent _ _ _ st2)
      · rintro σ' H' st'
        exact k1 _ H' σ' hd st'
/-- a, b, c = a list of three -/
theorem St.rest {v : Option V} {R' : SV} {e : En} (st : St B H σ ρ (e :: (v, R') :: τ)) : St B H σ ρ (e :: τ) := ⟨st.len, st.core.swap.cut⟩
theorem ex_unp3 {xs : List α} (h : EvE B ρ te (dat (tRow K T) xs) ρ1) (hx : xs = [a, b, c]) (hi : i < ρ1.length) (hj : j < ρ1.length) (hk : k < ρ1.length) (q : N.nx (((ρ1.set i (dat T a)).set j (dat T b)).set k (dat T c))) :
    ExS B ρ (tAsg te (gLst K 3 (gCons (gName i) (gCons (gName j) (gCons (gName k) gNil))))) N := fun H σ τ D st k1 _ _ _ =>
  h H σ τ _ st fun v H1 st1 => by
    obtain ⟨p, vs, rfl, hl, hq, st2⟩ := st1.row
    subst hx
    match vs, hl with
    | [x, y, z], _ =>
      refine ⟨p, [x, y, z], rfl, hq, rfl, x, [y, z], rfl, ?_⟩
      obtain ⟨x', e1, c1⟩ := (show Core B H1 ((some (.ref p), dat (tRowAt K T p [x, y, z]) [a, b, c]) :: (τ ++ σ.zip ρ1)) from st2.core).rowi (i := 0) rfl
      cases e1
      have s1 : St B H1 (σ.set i (some x)) (ρ1.set i (dat T a)) ((some (.ref p), dat (tRowAt K T p [x, y, z]) [a, b, c]) :: τ) := St.asg ⟨st2.len, c1⟩ hi
      refine ⟨y, [z], rfl, ?_⟩
      obtain ⟨y', e2, c2⟩ := (show Core B H1 ((some (.ref p), dat (tRowAt K T p [x, y, z]) [a, b, c]) :: (τ ++ (σ.set i (some x)).zip (ρ1.set i (dat T a)))) from s1.core).rowi (i := 1) rfl
      cases e2
      have s2 : St B H1 ((σ.set i (some x)).set j (some y)) ((ρ1.set i (dat T a)).set j (dat T b)) ((some (.ref p), dat (tRowAt K T p [x, y, z]) [a, b, c]) :: τ) := St.asg (i := j) ⟨s1.len, c2⟩ (by rw [List.length_set]; exact hj)
      refine ⟨z, [], rfl, ?_⟩
      obtain ⟨z', e3, c3⟩ := (show Core B H1 ((some (.ref p), dat (tRowAt K T p [x, y, z]) [a, b, c]) :: (τ ++ ((σ.set i (some x)).set j (some y)).zip ((ρ1.set i (dat T a)).set j (dat T b)))) from s2.core).rowi (i := 2) rfl
      cases e3
      have s3 : St B H1 (((σ.set i (some x)).set j (some y)).set k (some z)) (((ρ1.set i (dat T a)).set j (dat T b)).set k (dat T c)) ((some (.ref p), dat (tRowAt K T p [x, y, z]) [a, b, c]) :: τ) := St.asg (i := k) ⟨s2.len, c3⟩ (by rw [List.length_set, List.length_set]; exact hk)
      exact ⟨rfl, k1 _ H1 _ q s3.cut⟩
/-- truth of a list -/
theorem et_truL {xs : List α} (h : EvE B ρ te (dat (tRow K T) xs) ρ1) : EvT B ρ (fun σ H Q => te σ H fun x H' => ∃ k, TruV K x H' k ∧ Q k H') (!xs.isEmpty) ρ1 := fun H σ τ Q st q =>
  h H σ τ _ st fun v H1 st1 => by
    obtain ⟨F, x, m, e1, p, vs, e2, hp, hr⟩ := st1.core.d1
    cases e1; subst e2
    refine ⟨!xs.isEmpty, .inl ⟨vs, m.seq hp, ?_⟩, q H1 st1.cut⟩
    cases hr <;> rfl
/-- is None -/
theorem ev_isN {x : Option α} (h : EvE B ρ te (dat (tOpt T) x) ρ1) : EvE B ρ (tOp (fun x y H Q => y = .non ∧ Q (.bl (decide (x = .non))) H) te (tC .non)) (dat tBl x.isNone) ρ1 := fun H σ τ Q st q =>
  h H σ τ _ st fun v H1 st1 => ⟨rfl, by
    obtain ⟨F, y, m, e1, hr⟩ := st1.core.d1
    cases e1
    have e : decide (v = .non) = x.isNone := by
      cases x with
      | none =>
        have hr' : v = V.non := hr
        rw [hr']; rfl
      | some a => exact decide_eq_false hr.1
    rw [e]
    exact q _ H1 ⟨st1.len, st1.core.cut.sc sc_bl⟩⟩
theorem ev_notN {x : Option α} (h : EvE B ρ te (dat (tOpt T) x) ρ1) : EvE B ρ (tOp (fun x y H Q => y = .non ∧ Q (.bl (!decide (x = .non))) H) te (tC .non)) (dat tBl (!x.isNone)) ρ1 := fun H σ τ Q st q =>
  h H σ τ _ st fun v H1 st1 => ⟨rfl, by
    obtain ⟨F, y, m, e1, hr⟩ := st1.core.d1
    cases e1
    have e : decide (v = .non) = x.isNone := by
      cases x with
      | none =>
        have hr' : v = V.non := hr
        rw [hr']; rfl
      | some a => exact decide_eq_false hr.1
    rw [e]
    exact q _ H1 ⟨st1.len, st1.core.cut.sc sc_bl⟩⟩
theorem ev_neg {n : Int} (h : EvE B ρ te (dat tInt n) ρ1) : EvE B ρ (tUn (rU fun i => .int (-i)) te) (dat tInt (-n)) ρ1 := fun H σ τ Q st q =>
  h H σ τ _ st fun v H1 st1 => by
    obtain ⟨F, y, m, e1, e2⟩ := st1.core.d1
    cases e1; cases e2
    exact ⟨n, rfl, q _ H1 ⟨st1.len, st1.core.cut.sc sc_int⟩⟩
theorem ev_isL {s : Str} {xs : List Str} (ha : EvE B ρ ta (dat tStr s) ρ1) (hb : EvE B ρ1 tb (dat (tRow K tStr) xs) ρ2) : EvE B ρ (tOp (rIn K false) ta tb) (dat tBl (decide (s ∈ xs))) ρ2 := ev_inL ha hb
theorem ev_niL {s : Str} {xs : List Str} (ha : EvE B ρ ta (dat tStr s) ρ1) (hb : EvE B ρ1 tb (dat (tRow K tStr) xs) ρ2) : EvE B ρ (tOp (rIn K true) ta tb) (dat tBl (!decide (s ∈ xs))) ρ2 := ev_inL ha hb
theorem ev_isT {s : Str} {xs : List Str} (ha : EvE B ρ ta (dat tStr s) ρ1) (hb : EvE B ρ1 tb (dat (tTupL K tStr) xs) ρ2) : EvE B ρ (tOp (rIn K false) ta tb) (dat tBl (decide (s ∈ xs))) ρ2 := ev_inT ha hb
theorem ev_niT {s : Str} {xs : List Str} (ha : EvE B ρ ta (dat tStr s) ρ1) (hb : EvE B ρ1 tb (dat (tTupL K tStr) xs) ρ2) : EvE B ρ (tOp (rIn K true) ta tb) (dat tBl (!decide (s ∈ xs))) ρ2 := ev_inT ha hb
theorem ev_isO {m : Nat} {s : Str} {x : V} {xs : List Str} (ha : EvE B ρ ta (dat tStr s) ρ1) (hb : EvE B ρ1 tb (isv x) ρ2) (hm : ρ2[m]? = some (own x (oList tStr) xs)) : EvE B ρ (tOp (rIn K false) ta tb) (dat tBl (decide (s ∈ xs))) ρ2 := ev_inO ha hb hm
theorem ev_niO {m : Nat} {s : Str} {x : V} {xs : List Str} (ha : EvE B ρ ta (dat tStr s) ρ1) (hb : EvE B ρ1 tb (isv x) ρ2) (hm : ρ2[m]? = some (own x (oList tStr) xs)) : EvE B ρ (tOp (rIn K true) ta tb) (dat tBl (!decide (s ∈ xs))) ρ2 := ev_inO ha hb hm
end
end Sw
/-! text Kb0 -/
set_option maxHeartbeats 4000000
namespace Sw
open PySem PySem.Spec PyProof.Rows L2
/-- a def of the module's top -/
structure Df (K : PySem.W.Frag) (mg : Str → Option Value) (x : Str) (st : Stmt) : Prop where
  ex : ∃ f fd, Fun K x x st f fd ∧ mg x = some (.ref f)
structure Md (K : PySem.W.Frag) (C : Addr) (m qual : Str) (st : Stmt) : Prop where
  ex : ∃ f fd, Fun K m qual st f fd ∧ Meth K C m f
  cl : Cls K C
section
variable {P : Program} {w : World} {K : PySem.W.Frag} {mg : Str → Option Value} {base : Heap}
theorem gn_of {x : Str} {st : Stmt} {N ps : List Str} {k : Nat} {sp : Sp} (d : Df K mg x st) (S : FnScope N ps (defScope st)) (len : ∀ vs H Q E, sp vs H Q E → vs.length = ps.length)
    (hb : ∀ (kV doc pm : Value) (an : Option Addr) (cdv ct : Value) (us : List Value), us.length = ps.length → bindArgs (PySem.W.fnOf x x (defArgs st) (defBody st) (defScope st) .none kV doc pm an cdv ct) ⟨us, []⟩ = pure (ps.zip us))
    (hbody : ∀ (f : Addr) (cdv : Value) (A : Around) (outer : List Env) (s : Shared) (H : Hp) (vs : List V) (Q : VK) (E : XK), Room k (A.deeper (envOfC x (defScope st) s.heap.objs.size f cdv)) → sp vs H Q E →
      ∃ t, PSs (cxOf CX0 P w K mg base N x (defScope st) f cdv A outer s H E).nox (defBody st) t ∧ t { nx := fun _ H' => Q .non H', rt := Q } (L2.start N vs) H) : Gn P w K mg base (k + 1) x sp := by
  obtain ⟨f, fd, F, hm⟩ := d.ex
  have G := F.ok (P := P) (w := w) (mg := mg) (base := base) S len (hbody f)
  refine ⟨f, ⟨(G.raw (F.binds hb) .nil).imp fun vs H Q E h => by rw [List.append_nil]; exact h, F.kp⟩, hm⟩
end
theorem fr_nil : ∀ s ∈ ([] : List SV), Fr s := fun _ h => nomatch h
theorem fr_cons {s : SV} {r : List SV} (h : Fr s) (hr : ∀ s ∈ r, Fr s) : ∀ s' ∈ s :: r, Fr s' := fun s' hs => by
  rcases List.mem_cons.mp hs with rfl | hs
  · exact h
  · exact hr _ hs
theorem lenF {A : Type} {pre : A → Prop} {ins : A → List SV} {res : A → SV} {n : Nat} (h : ∀ a, (ins a).length = n) : ∀ vs H Q E, spF pre ins res vs H Q E → vs.length = n := fun vs H Q E ⟨a, _, _, _, hl, _⟩ => by rw [hl, h]
end Sw
namespace K79
open PySem PySem.Spec PyProof.Rows L2 Sw
def top (i : Nat) : Stmt := PySem.Challenge.pw_fieldsandcalls_k79_whole_strongest_promi.main.body.getD i (.Pass ⟨0, 0, 0, 0⟩)
end K79
/-! text Sw12 -/
set_option maxHeartbeats 4000000
/-! Sw12: a list comprehension with three for clauses and no tests. -/
namespace Sw
open PySem PySem.Spec PyProof.Rows L2
/-- the comprehension's node -/
abbrev lc3E (elt t0 i0 t1 i1 t2 i2 : Expr) (scope : Scope) (pos : Pos) : Expr := .ListComp elt [⟨t0, i0, [], 0⟩, ⟨t1, i1, [], 0⟩, ⟨t2, i2, [], 0⟩] scope pos
section
variable {prog : Program} {w : World} {A : Around} {R : Result → Shared → Prop} {s : Shared} {elt t0 i0 t1 i1 t2 i2 : Expr} {scope : Scope} {pos : Pos} {it acc : Value} {env : Env}
theorem lc3_start (k : Nat) (hk : k = 0 ∨ k = 1) (h0 : codeAny (model prog w) A (.compLoop (lc3E elt t0 i0 t1 i1 t2 i2 scope pos) (k + 1) it acc env) R s)
    (h : wpAny (model prog w) A (pyIter it) (fun it' s' => codeAny (model prog w) A (.compLoop (lc3E elt t0 i0 t1 i1 t2 i2 scope pos) (k + 1) it' acc env) R s') (notedBy (model prog w) A env fun x s' => R (.error x) s') s) :
    codeAny (model prog w) A (.compStart (lc3E elt t0 i0 t1 i1 t2 i2 scope pos) (k + 1) it acc env) R s := by
  refine codeAny_of_tree ?_
  show wpAny _ _ ((compStart (lc3E elt t0 i0 t1 i1 t2 i2 scope pos) (k + 1) it acc env).onRaise (fun x => do noteFrame x env; standAt theWindowsPlace)) _ _ s
  refine wpAny_notedAt ?_
  unfold compStart
  rcases hk with rfl | rfl
  all_goals
    show wpAny _ _ (ask >>= _) _ _ s
    refine wpAny_bind (wpAny_askSetting (wpAny_ite ?_))
    split
    · first
        | exact wpAny_bind (wpAny_pure (wpAny_pure (And.intro rfl h0)))
        | exact wpAny_pure (And.intro rfl h0)
    · first
        | exact wpAny_bind (wpAny_rule (wpAny_bind (wpAny_standAt (wpAny_bind (wpAny_mono h (fun it' s' h' => wpAny_pure (And.intro rfl h')) fun _ _ x => x)))))
        | (refine wpAny_bind (wpAny_rule ?_); refine wpAny_bind (m := standAt _) (wpAny_standAt (wpAny_bind (wpAny_mono h (fun it' s' h' => wpAny_pure (And.intro rfl h')) fun _ _ x => x))))
/-- an outer loop: a turn's end is the next clause's start -/
theorem lc3_out (k : Nat) (tg iter1 : Expr)
    (he : ∀ it acc env, compTurn (lc3E elt t0 i0 t1 i1 t2 i2 scope pos) k it acc env = (do
      standAt (match k with | 0 => i0.pos | _ => i1.pos)
      match ← pyNext it with
      | none => pure (.done .next)
      | some v =>
        letOwnedTupleGo tg it v
        assign tg env v
        let x ← eval iter1 env
        standAt iter1.pos
        let x ← foldedSetIterable iter1 env x
        let _ ← runOwn (.compStart (lc3E elt t0 i0 t1 i1 t2 i2 scope pos) (k + 1) (← holding [x] (pyIter x)) acc env) env
        again (.compLoop (lc3E elt t0 i0 t1 i1 t2 i2 scope pos) k it acc env)))
    (hs : ∀ x, foldedSetIterable iter1 env x = pure x) (I : Nat → Shared → Prop)
    (turn : ∀ n s, I n s → wpAny (model prog w) A (pyNext it) (fun r s₁ => match r with
      | none => R (.ok .next) s₁
      | some v => wpAny (model prog w) A (letOwnedTupleGo tg it v) (fun _ s₂ => wpAny (model prog w) A (assign tg env v) (fun _ s₃ =>
          wpAny (model prog w) A (eval iter1 env) (fun x s₄ => wpAny (model prog w) A (pyIter x) (fun it1 s₅ =>
            codeAny (model prog w) A (.compStart (lc3E elt t0 i0 t1 i1 t2 i2 scope pos) (k + 1) it1 acc env) (fun r s' => match r with
              | .ok _ => ∃ m, m < n ∧ I m s'
              | .error _ => False) s₅) (notedBy (model prog w) A env fun e s' => R (.error e) s') s₄) (notedBy (model prog w) A env fun e s' => R (.error e) s') s₃)
          (notedBy (model prog w) A env fun e s' => R (.error e) s') s₂) (notedBy (model prog w) A env fun e s' => R (.error e) s') s₁) (notedBy (model prog w) A env fun e s' => R (.error e) s') s)
    (n : Nat) (h : I n s) : codeAny (model prog w) A (.compLoop (lc3E elt t0 i0 t1 i1 t2 i2 scope pos) k it acc env) R s := by
  refine codeAny_loop rfl I (fun n s hI => ?_) n h
  refine wpAny_noted (env := env) ?_
  rw [he]
  refine wpAny_bind (wpAny_standAt (wpAny_bind (wpAny_mono (turn n s hI) (fun r s₁ h₁ => ?_) fun _ _ h' => h')))
  cases r with
  | none => exact wpAny_pure h₁
  | some v =>
    refine wpAny_bind (wpAny_mono h₁ (fun _ s₂ h₂ => wpAny_bind (wpAny_mono h₂ (fun _ s₃ h₃ => ?_) fun _ _ h' => h')) fun _ _ h' => h')
    refine wpAny_bind (wpAny_mono h₃ (fun x s₄ h₄ => ?_) fun _ _ h' => h')
    refine wpAny_bind (wpAny_standAt (wpAny_bind (wpAny_of_eq (hs x) (wpAny_bind (wpAny_holding (wpAny_mono h₄ (fun it1 s₅ h₅ => ?_) fun _ _ h' => h'))))))
    refine wpAny_bind (wpAny_runOwn ?_)
    rw [Around.mark_none]
    refine codeAny_mono h₅ fun r s' hr => ?_
    cases r with
    | ok f => exact wpAny_pure ⟨rfl, hr⟩
    | error e => exact hr.elim
/-- the innermost loop -/
theorem lc3_in (I : Nat → Shared → Prop)
    (turn : ∀ n s, I n s → wpAny (model prog w) A (pyNext it) (fun r s₁ => match r with
      | none => R (.ok .next) s₁
      | some v => wpAny (model prog w) A (letOwnedTupleGo t2 it v) (fun _ s₂ => wpAny (model prog w) A (assign t2 env v) (fun _ s₃ =>
          wpAny (model prog w) A (eval elt env) (fun x s₄ =>
              wpAny (model prog w) A (call (.builtin "list.append") [acc, x]) (fun _ s₅ => ∃ m, m < n ∧ I m s₅) (notedBy (model prog w) A env fun e s' => R (.error e) s') s₄)
            (notedBy (model prog w) A env fun e s' => R (.error e) s') s₃) (notedBy (model prog w) A env fun e s' => R (.error e) s') s₂) (notedBy (model prog w) A env fun e s' => R (.error e) s') s₁) (notedBy (model prog w) A env fun e s' => R (.error e) s') s)
    (n : Nat) (h : I n s) : codeAny (model prog w) A (.compLoop (lc3E elt t0 i0 t1 i1 t2 i2 scope pos) 2 it acc env) R s := by
  refine codeAny_loop rfl I (fun n s hI => ?_) n h
  refine wpAny_noted (env := env) ?_
  have he : compTurn (lc3E elt t0 i0 t1 i1 t2 i2 scope pos) 2 it acc env = (do
      standAt i2.pos
      match ← pyNext it with
      | none => pure (.done .next)
      | some v =>
        letOwnedTupleGo t2 it v
        assign t2 env v
        (do let _ ← call (.builtin "list.append") [acc, ← eval elt env])
        again (.compLoop (lc3E elt t0 i0 t1 i1 t2 i2 scope pos) 2 it acc env)) := by rfl
  rw [he]
  refine wpAny_bind (wpAny_standAt (wpAny_bind (wpAny_mono (turn n s hI) (fun r s₁ h₁ => ?_) fun _ _ h' => h')))
  cases r with
  | none => exact wpAny_pure h₁
  | some v =>
    refine wpAny_bind (wpAny_mono h₁ (fun _ s₂ h₂ => wpAny_bind (wpAny_mono h₂ (fun _ s₃ h₃ => ?_) fun _ _ h' => h')) fun _ _ h' => h')
    exact wpAny_bind (wpAny_bind (wpAny_mono h₃ (fun x s₄ h₄ => wpAny_bind (wpAny_mono h₄ (fun _ s₅ h₅ => wpAny_pure (wpAny_pure ⟨rfl, h₅⟩)) fun _ _ h' => h')) fun _ _ h' => h'))
theorem lc3_he0 (it acc : Value) (env : Env) : compTurn (lc3E elt t0 i0 t1 i1 t2 i2 scope pos) 0 it acc env = (do
      standAt (match 0 with | 0 => i0.pos | _ => i1.pos)
      match ← pyNext it with
      | none => pure (.done .next)
      | some v =>
        letOwnedTupleGo t0 it v
        assign t0 env v
        let x ← eval i1 env
        standAt i1.pos
        let x ← foldedSetIterable i1 env x
        let _ ← runOwn (.compStart (lc3E elt t0 i0 t1 i1 t2 i2 scope pos) (0 + 1) (← holding [x] (pyIter x)) acc env) env
        again (.compLoop (lc3E elt t0 i0 t1 i1 t2 i2 scope pos) 0 it acc env)) := by rfl
theorem lc3_he1 (it acc : Value) (env : Env) : compTurn (lc3E elt t0 i0 t1 i1 t2 i2 scope pos) 1 it acc env = (do
      standAt (match 1 with | 0 => i0.pos | _ => i1.pos)
      match ← pyNext it with
      | none => pure (.done .next)
      | some v =>
        letOwnedTupleGo t1 it v
        assign t1 env v
        let x ← eval i2 env
        standAt i2.pos
        let x ← foldedSetIterable i2 env x
        let _ ← runOwn (.compStart (lc3E elt t0 i0 t1 i1 t2 i2 scope pos) (1 + 1) (← holding [x] (pyIter x)) acc env) env
        again (.compLoop (lc3E elt t0 i0 t1 i1 t2 i2 scope pos) 1 it acc env)) := by rfl
end
def tLc3 (wi : TI) (g : TG) (wi1 : TI) (g1 : TG) (wi2 : TI) (g2 : TG) (te : TE) (vs vs1 vs2 : List Nat) : TE := fun σ H Q => wi σ H fun J H1 => ∀ D, H1 D = none → ∃ W : Nat → Nat → Hp → Prop, (∃ m, W 0 m (upd H1 D (.lst []))) ∧
  ∀ i m H, W i m H → (J.stop i H ∧ Q (.ref D) H) ∨ (J.go i H ∧ ∃ Nx : Hp → Prop, (∀ H', Nx H' → ∃ m', m' < m ∧ W (i + 1) m' H') ∧ ∀ x H', J.yld i H x H' → g x (wipe σ vs) H' fun σ2 H2 => wipe σ2 vs = wipe σ vs ∧
    wi1 σ2 H2 fun J1 H4 => ∃ W1 : Nat → Nat → Hp → Prop, (∃ m, W1 0 m H4) ∧
    ∀ j k H, W1 j k H → (J1.stop j H ∧ Nx H) ∨ (J1.go j H ∧ ∃ Nx1 : Hp → Prop, (∀ H', Nx1 H' → ∃ k', k' < k ∧ W1 (j + 1) k' H') ∧ ∀ x H', J1.yld j H x H' → g1 x (wipe σ2 vs1) H' fun σ3 H5 => wipe σ3 vs1 = wipe σ2 vs1 ∧
      wi2 σ3 H5 fun J2 H6 => ∃ W2 : Nat → Nat → Hp → Prop, (∃ m, W2 0 m H6) ∧
      ∀ l n H, W2 l n H → (J2.stop l H ∧ Nx1 H) ∨ (J2.go l H ∧ ∃ Nx2 : Hp → Prop, (∀ H', Nx2 H' → ∃ n', n' < n ∧ W2 (l + 1) n' H') ∧ ∀ x H', J2.yld l H x H' → g2 x (wipe σ3 vs2) H' fun σ4 H7 => wipe σ4 vs2 = wipe σ3 vs2 ∧
        te σ4 H7 fun y H8 => ∃ acc, H8 D = some (.lst acc) ∧ acc.length < sizeLine ∧ Nx2 (upd H8 D (.lst (acc ++ [y]))))))
section
variable {X : Cx}
theorem pe_lc3 {elt t0 i0 t1 i1 t2 i2 : Expr} {scope : Scope} {own : List (Str × Nat)} {vs1 vs2 : List Nat} {pos : Pos} {wi wi1 wi2 : TI} {g g1 g2 : TG} {te : TE} (hc : X.calm = true) (hN : X.N.Nodup) (hi : PI X t0 i0 wi) (ok : BlkOk X.N X.env.scope scope own)
    (hv1 : ∀ i ∈ vs1, i ∈ own.map (·.2)) (hv2 : ∀ i ∈ vs2, i ∈ vs1)
    (hg : ∀ (s : Shared) (H : Hp) (C : Addr) (cl : List (Str × Addr)) (fp : List Addr), PG (X.blk s H scope (compEnvC scope cl C X.env) fp) t0 g)
    (hi1 : ∀ (s : Shared) (H : Hp) (C : Addr) (cl : List (Str × Addr)) (fp : List Addr), PI (X.blk s H scope (compEnvC scope cl C X.env) fp) t1 i1 wi1)
    (hg1 : ∀ (s : Shared) (H : Hp) (C : Addr) (cl : List (Str × Addr)) (fp : List Addr), PG (X.blk s H scope (compEnvC scope cl C X.env) fp) t1 g1)
    (hi2 : ∀ (s : Shared) (H : Hp) (C : Addr) (cl : List (Str × Addr)) (fp : List Addr), PI (X.blk s H scope (compEnvC scope cl C X.env) fp) t2 i2 wi2)
    (hg2 : ∀ (s : Shared) (H : Hp) (C : Addr) (cl : List (Str × Addr)) (fp : List Addr), PG (X.blk s H scope (compEnvC scope cl C X.env) fp) t2 g2)
    (he : ∀ (s : Shared) (H : Hp) (C : Addr) (cl : List (Str × Addr)) (fp : List Addr), PE (X.blk s H scope (compEnvC scope cl C X.env) fp) elt te)
    (hs : ∀ x, foldedSetIterable i0 X.env x = pure x := by intro _; rfl) (hs1 : ∀ env x, foldedSetIterable i1 env x = pure x := by intro _ _; rfl) (hs2 : ∀ env x, foldedSetIterable i2 env x = pure x := by intro _ _; rfl) :
    PE X (lc3E elt t0 i0 t1 i1 t2 i2 scope pos) (tLc3 wi g wi1 g1 wi2 g2 te (own.map (·.2)) vs1 vs2) := by
  refine ⟨fun pins s σ H Q I h => ?_⟩
  rw [show (lc3E elt t0 i0 t1 i1 t2 i2 scope pos) = .ListComp elt [⟨t0, i0, [], 0⟩, ⟨t1, i1, [], 0⟩, ⟨t2, i2, [], 0⟩] scope pos from rfl, eval_ListComp]
  have hfree : ∀ y ∈ scope.names, y.2 = .free → ∃ c, X.env.cells.lookup y.1 = some c := fun y hy e => by
    rcases ok.free y hy e with k | k
    · exact I.ok.has _ (.inl k)
    · exact I.ok.has _ (.inr k)
  refine wpAny_comprehension_free (use := none) rfl hs (closure_ok hfree) ok.kind (fun y hy e => by rw [ok.uniq y hy, e])
    (thn (hi.run pins s σ H _ I h) fun xv s1 hx => thn hx fun itv s2 h2 => ?_)
  obtain ⟨it, fp, tn, J, H2, e, I2, T, st2, f2, q⟩ := h2
  subst e
  refine wpAny_newObj_type (newEnv_comp ?_) (by show 0 ≤ sizeLine; decide)
  generalize hD : s2.heap.objs.size = D
  have hDn : H2 D = none := I2.hok.fresh (Nat.le_of_eq hD)
  obtain ⟨W, ⟨m0, w0⟩, turn⟩ := q D hDn
  generalize hs3 : ({ s2 with heap := s2.heap.push { cls := .type "list", data := .seq ([] : List Value).toArray } } : Shared) = s3
  have I3 : Inv X pins σ (upd H2 D (.lst [])) s3 := by
    rw [← hs3]
    refine I2.laid (t' := s2.toks) (fun b o e => Heap.get?_push_of_some _ e) (Nat.le_of_eq hD) ⟨Nat.zero_le _, [], 0, .nil, ?_⟩
    rw [← hD]
    exact Heap.get?_push_size _ rfl
  have h3 : s3.heap = s2.heap.push { cls := .type "list", data := .seq ([] : List Value).toArray } := by rw [← hs3]
  have sz : ∀ b ∈ fp, b < s2.heap.objs.size := fun b hb => by
    obtain ⟨o, e, _⟩ := T.obj _ _ st2 b hb
    exact Heap.lt_size e
  have f3 : ∀ b ∈ fp, FpOk X pins (upd H2 D (.lst [])) b ∧ b < s3.heap.objs.size := fun b hb => by
    have hlt := sz b hb
    refine ⟨⟨?_, (f2 b hb).2⟩, by rw [h3, Heap.size_push]; exact Nat.lt_succ_of_lt hlt⟩
    rw [upd_ne (by rw [← hD]; exact Nat.ne_of_lt hlt)]
    exact (f2 b hb).1
  have st3 : tn 0 s3.heap := T.keep _ _ _ st2 fun b _ o e => by rw [h3]; exact Heap.get?_push_of_some _ e
  have I4 := block_start I3 ok hN f3
  have pg := hg s3 (upd H2 D (.lst [])) s3.heap.objs.size (cellsFrom (s3.heap.objs.size + 1) scope.names (cloFrom X.env.cells scope.names [])) fp
  have pi1 := hi1 s3 (upd H2 D (.lst [])) s3.heap.objs.size (cellsFrom (s3.heap.objs.size + 1) scope.names (cloFrom X.env.cells scope.names [])) fp
  have pg1 := hg1 s3 (upd H2 D (.lst [])) s3.heap.objs.size (cellsFrom (s3.heap.objs.size + 1) scope.names (cloFrom X.env.cells scope.names [])) fp
  have pi2 := hi2 s3 (upd H2 D (.lst [])) s3.heap.objs.size (cellsFrom (s3.heap.objs.size + 1) scope.names (cloFrom X.env.cells scope.names [])) fp
  have pg2 := hg2 s3 (upd H2 D (.lst [])) s3.heap.objs.size (cellsFrom (s3.heap.objs.size + 1) scope.names (cloFrom X.env.cells scope.names [])) fp
  have pe := he s3 (upd H2 D (.lst [])) s3.heap.objs.size (cellsFrom (s3.heap.objs.size + 1) scope.names (cloFrom X.env.cells scope.names [])) fp
  show codeAny _ _ (.compStart (lc3E elt t0 i0 t1 i1 t2 i2 scope pos) 0 (.ref it) (.ref D) (compEnvC scope (cellsFrom (s3.heap.objs.size + 1) scope.names (cloFrom X.env.cells scope.names [])) s3.heap.objs.size X.env)) (compPost (model X.prog X.w) X.A X.xe none (EP X pins σ Q) (.ref D) s3.heap.objs.size) { s3 with heap := pushCells (s3.heap.push { cls := .type "dict", data := .dict #[] }) scope.names }
  have nfp : ∀ b ∈ fp, (upd H2 D (.lst [])) b = none := fun b hb => (f3 b hb).1.1
  generalize hce : compEnvC scope (cellsFrom (s3.heap.objs.size + 1) scope.names (cloFrom X.env.cells scope.names [])) s3.heap.objs.size X.env = ce at I4 pg pe pi1 pg1 pi2 pg2 ⊢
  have cL : ce.locals = s3.heap.objs.size := by subst hce; rfl
  generalize hH3 : upd H2 D (.lst []) = H3 at I3 I4 pg pe pi1 pg1 pi2 pg2 w0 nfp f3
  generalize hs4 : ({ s3 with heap := pushCells (s3.heap.push { cls := .type "dict", data := .dict #[] }) scope.names } : Shared) = s4 at I4 ⊢
  have st4 : tn 0 s4.heap := T.keep _ _ _ st3 fun b _ o e => by rw [← hs4]; exact pushCells_keeps _ _ _ _ (Heap.get?_push_of_some _ e)
  have stat : ∀ {σ' : L2.St} {H' : Hp} {s' : Shared}, Inv (X.blk s3 H3 scope ce fp) [] σ' H' s' → (∀ b ∈ fp, H' b = none) → ∀ b ∈ fp, FpOk (X.blk s3 H3 scope ce fp) [] H' b := fun {σ' H' s'} I' hn b hb =>
    ⟨hn b hb, (I'.ok.exf b hb).1, I'.ok.exfs b hb, .inl hb, fun x c e => (I'.ok.exf b hb).2 x c e, fun p hp => absurd (show p ∈ ([] : List (Addr × Obj)) ++ [] from hp) (by simp)⟩
  have loop : codeAny (model X.prog X.w) X.A (.compLoop (lc3E elt t0 i0 t1 i1 t2 i2 scope pos) 0 (.ref it) (.ref D) ce) (compPost (model X.prog X.w) X.A X.xe none (EP X pins σ Q) (.ref D) s3.heap.objs.size) s4 := by
    refine lc3_out 0 t0 i1 lc3_he0 (hs1 ce) (fun n s' => ∃ i H', Inv (X.blk s3 H3 scope ce fp) [] (wipe σ (own.map (·.2))) H' s' ∧ tn i s'.heap ∧ (∀ b ∈ fp, H' b = none) ∧ W i n H') ?_ m0 ⟨0, H3, I4, st4, nfp, w0⟩
    rintro n s5 ⟨i, H5, I5, st5, n5, w5⟩
    rcases turn i n H5 w5 with ⟨stop, qq⟩ | ⟨go, Nx, hNx, step⟩
    · refine thnF (T.done (X.blk s3 H3 scope ce fp) rfl rfl rfl hc i [] s5 _ H5 (fun _ _ => False) I5 (stat I5 n5) st5 stop) fun r s6 ⟨hr, I6⟩ => ?_
      subst hr
      have I7 : Inv X pins σ H5 s6 := I3.call' (ch := fp) I6.os I6.base I6.hok I6.bare fun b hb => ⟨(f3 b hb).1.2.2.2.1, (f3 b hb).1.2.1, (f3 b hb).1.2.2.2.2.1, (f3 b hb).1.2.2.2.2.2⟩
      have nC : H5 s3.heap.objs.size = none := by
        have z : H5 ce.locals = none := I6.free
        rw [cL] at z
        exact z
      obtain ⟨m, hn, _⟩ := I6.loc
      have hn : s6.heap.Ns ce.locals m := hn
      rw [cL] at hn
      refine ⟨m, hn, fun h'' sb => ?_⟩
      obtain ⟨f0, f1, f2, f3, f4, f5⟩ := I3.fpOk (Nat.le_refl _) nC
      exact ⟨.ref D, H5, I7.turned (t' := s6.toks) (fun b o hb e => (sb.2 b hb).trans e) f0 f1 f3 f4 f5, rfl, qq⟩
    · refine thnF (T.item (X.blk s3 H3 scope ce fp) rfl rfl rfl hc i [] s5 _ H5 (fun _ _ => False) I5 (stat I5 n5) st5 go) fun r s6 ⟨u, hr, h6⟩ => ?_
      subst hr
      refine thnF h6 fun _ s7 ⟨x, H7, I7, r7, y7, st7, n7⟩ => ?_
      have I7' := I7.pinned (stat I7 n7) (T.obj _ _ st7)
      refine thnF (pg.run _ s7 _ H7 x u _ I7' r7 (step x H7 y7)) fun _ s8 ⟨σ8, H8, I8, hw8, q8⟩ => ?_
      have fin : ∀ {σ9 : L2.St} {s' : Shared} {H' : Hp}, Inv (X.blk s3 H3 scope ce fp) ([] ++ pinsAt fp s7.heap) σ9 H' s' → (wipe σ (own.map (·.2))).length = σ9.length → (∀ (j : Nat) v, (wipe σ (own.map (·.2)))[j]? = some (some v) → σ9[j]? = some (some v)) → Nx H' →
          ∃ m, m < n ∧ ∃ i H', Inv (X.blk s3 H3 scope ce fp) [] (wipe σ (own.map (·.2))) H' s' ∧ tn i s'.heap ∧ (∀ b ∈ fp, H' b = none) ∧ W i m H' := fun {σ9 s' H'} I' hl hk nx => by
        obtain ⟨m', hm, w'⟩ := hNx H' nx
        have pin' : ∀ b ∈ fp, ∀ o, s7.heap.get? b = some o → s'.heap.get? b = some o ∧ H' b = none := fun b hb o e =>
          let z := I'.pin (b, o) (List.mem_append_right _ (List.mem_append_right _ (mem_pinsAt hb e)))
          ⟨z.1, z.2.1⟩
        refine ⟨m', hm, i + 1, H', (I'.unpinned (pins := [])).weak hl hk, T.keep _ _ _ st7 fun b hb o e => (pin' b hb o e).1, fun b hb => ?_, w'⟩
        obtain ⟨o, e, _⟩ := T.obj _ _ st7 b hb
        exact (pin' b hb o e).2
      have hl8 : (wipe σ (own.map (·.2))).length = σ8.length := by rw [← hw8, wipe_length]
      have hk9 : ∀ (j : Nat) v, (wipe σ (own.map (·.2)))[j]? = some (some v) → (wipe σ8 vs1)[j]? = some (some v) := fun j v e => by
        rw [← hw8] at e
        obtain ⟨e1, e2⟩ := wipe_some e
        rw [wipe_out fun z => e2 (hv1 j z)]
        exact e1
      refine thnF (pi1.run _ s8 σ8 H8 _ I8 q8) fun xv s10 hx => thnF hx fun itv s11 h11 => ?_
      obtain ⟨it1, fp1, tn1, J1, H11, e1, I11, T1, st11, f11, W1, ⟨m1, w1⟩, turn1⟩ := h11
      subst e1
      have stat1 : ∀ {H' : Hp}, (∀ b ∈ fp1, H' b = none) → ∀ b ∈ fp1, FpOk (X.blk s3 H3 scope ce fp) ([] ++ pinsAt fp s7.heap) H' b := fun hn b hb => ⟨hn b hb, (f11 b hb).2⟩
      have loop1 : codeAny (model X.prog X.w) X.A (.compLoop (lc3E elt t0 i0 t1 i1 t2 i2 scope pos) 1 (.ref it1) (.ref D) ce)
          (fun r s' => match r with
            | .ok _ => ∃ m, m < n ∧ ∃ i H', Inv (X.blk s3 H3 scope ce fp) [] (wipe σ (own.map (·.2))) H' s' ∧ tn i s'.heap ∧ (∀ b ∈ fp, H' b = none) ∧ W i m H'
            | .error _ => False) s11 := by
        refine lc3_out 1 t1 i2 lc3_he1 (hs2 ce) (fun k s' => ∃ j H', Inv (X.blk s3 H3 scope ce fp) ([] ++ pinsAt fp s7.heap) (wipe σ8 vs1) H' s' ∧ tn1 j s'.heap ∧ (∀ b ∈ fp1, H' b = none) ∧ W1 j k H') ?_ m1 ⟨0, H11, I11.weak (wipe_length _ _) (fun j v e => (wipe_some e).1), st11, fun b hb => (f11 b hb).1, w1⟩
        rintro k s12 ⟨j, H12, I12, st12, n12, w12⟩
        rcases turn1 j k H12 w12 with ⟨stop1, nx1⟩ | ⟨go1, Nx1, hNx1, step1⟩
        · refine thnF (T1.done (X.blk s3 H3 scope ce fp) rfl rfl rfl hc j _ s12 (wipe σ8 vs1) H12 (fun _ _ => False) I12 (stat1 n12) st12 stop1) fun r s13 ⟨hr, I13⟩ => ?_
          subst hr
          exact fin I13 (hl8.trans (wipe_length σ8 vs1).symm) hk9 nx1
        · refine thnF (T1.item (X.blk s3 H3 scope ce fp) rfl rfl rfl hc j _ s12 (wipe σ8 vs1) H12 (fun _ _ => False) I12 (stat1 n12) st12 go1) fun r s13 ⟨u1, hr, h13⟩ => ?_
          subst hr
          refine thnF h13 fun _ s14 ⟨x1, H14, I14, r14, y14, st14, n14⟩ => ?_
          have I14' := I14.pinned (stat1 n14) (T1.obj _ _ st14)
          refine thnF (pg1.run _ s14 (wipe σ8 vs1) H14 x1 u1 _ I14' r14 (step1 x1 H14 y14)) fun _ s15 ⟨σ15, H15, I15, hw15, q15⟩ => ?_
          have fin1 : ∀ {σ9 : L2.St} {s' : Shared} {H' : Hp}, Inv (X.blk s3 H3 scope ce fp) (([] ++ pinsAt fp s7.heap) ++ pinsAt fp1 s14.heap) σ9 H' s' → (wipe σ8 vs1).length = σ9.length → (∀ (j : Nat) v, (wipe σ8 vs1)[j]? = some (some v) → σ9[j]? = some (some v)) → Nx1 H' →
              ∃ m, m < k ∧ ∃ j H', Inv (X.blk s3 H3 scope ce fp) ([] ++ pinsAt fp s7.heap) (wipe σ8 vs1) H' s' ∧ tn1 j s'.heap ∧ (∀ b ∈ fp1, H' b = none) ∧ W1 j m H' := fun {σ9 s' H'} I' hl hk nx => by
            obtain ⟨m', hm, w'⟩ := hNx1 H' nx
            have pin' : ∀ b ∈ fp1, ∀ o, s14.heap.get? b = some o → s'.heap.get? b = some o ∧ H' b = none := fun b hb o e =>
              let z := I'.pin (b, o) (List.mem_append_right _ (List.mem_append_right _ (mem_pinsAt hb e)))
              ⟨z.1, z.2.1⟩
            refine ⟨m', hm, j + 1, H', I'.unpinned.weak hl hk, T1.keep _ _ _ st14 fun b hb o e => (pin' b hb o e).1, fun b hb => ?_, w'⟩
            obtain ⟨o, e, _⟩ := T1.obj _ _ st14 b hb
            exact (pin' b hb o e).2
          have hl15 : (wipe σ8 vs1).length = σ15.length := by rw [← hw15, wipe_length]
          have hk16 : ∀ (j : Nat) v, (wipe σ8 vs1)[j]? = some (some v) → (wipe σ15 vs2)[j]? = some (some v) := fun j v e => by
            rw [← hw15] at e
            obtain ⟨e1, e2⟩ := wipe_some e
            rw [wipe_out fun z => e2 (hv2 j z)]
            exact e1
          refine thnF (pi2.run _ s15 σ15 H15 _ I15 q15) fun xv s16 hx => thnF hx fun itv s17 h17 => ?_
          obtain ⟨it2, fp2, tn2, J2, H17, e2, I17, T2, st17, f17, W2, ⟨m2, w2⟩, turn2⟩ := h17
          subst e2
          have stat2 : ∀ {H' : Hp}, (∀ b ∈ fp2, H' b = none) → ∀ b ∈ fp2, FpOk (X.blk s3 H3 scope ce fp) (([] ++ pinsAt fp s7.heap) ++ pinsAt fp1 s14.heap) H' b := fun hn b hb => ⟨hn b hb, (f17 b hb).2⟩
          have loop2 : codeAny (model X.prog X.w) X.A (.compLoop (lc3E elt t0 i0 t1 i1 t2 i2 scope pos) 2 (.ref it2) (.ref D) ce)
              (fun r s' => match r with
                | .ok _ => ∃ m, m < k ∧ ∃ j H', Inv (X.blk s3 H3 scope ce fp) ([] ++ pinsAt fp s7.heap) (wipe σ8 vs1) H' s' ∧ tn1 j s'.heap ∧ (∀ b ∈ fp1, H' b = none) ∧ W1 j m H'
                | .error _ => False) s17 := by
            refine lc3_in (fun l s' => ∃ j H', Inv (X.blk s3 H3 scope ce fp) (([] ++ pinsAt fp s7.heap) ++ pinsAt fp1 s14.heap) (wipe σ15 vs2) H' s' ∧ tn2 j s'.heap ∧ (∀ b ∈ fp2, H' b = none) ∧ W2 j l H') ?_ m2 ⟨0, H17, I17.weak (wipe_length _ _) (fun j v e => (wipe_some e).1), st17, fun b hb => (f17 b hb).1, w2⟩
            rintro l s18 ⟨j2, H18, I18, st18, n18, w18⟩
            rcases turn2 j2 l H18 w18 with ⟨stop2, nx2⟩ | ⟨go2, Nx2, hNx2, step2⟩
            · refine thnF (T2.done (X.blk s3 H3 scope ce fp) rfl rfl rfl hc j2 _ s18 (wipe σ15 vs2) H18 (fun _ _ => False) I18 (stat2 n18) st18 stop2) fun r s19 ⟨hr, I19⟩ => ?_
              subst hr
              exact fin1 I19 (hl15.trans (wipe_length σ15 vs2).symm) hk16 nx2
            · refine thnF (T2.item (X.blk s3 H3 scope ce fp) rfl rfl rfl hc j2 _ s18 (wipe σ15 vs2) H18 (fun _ _ => False) I18 (stat2 n18) st18 go2) fun r s19 ⟨u2, hr, h19⟩ => ?_
              subst hr
              refine thnF h19 fun _ s20 ⟨x2, H20, I20, r20, y20, st20, n20⟩ => ?_
              have I20' := I20.pinned (stat2 n20) (T2.obj _ _ st20)
              refine thnF (pg2.run _ s20 (wipe σ15 vs2) H20 x2 u2 _ I20' r20 (step2 x2 H20 y20)) fun _ s21 ⟨σ21, H21, I21, hw21, q21⟩ => ?_
              refine thnF (pe.run _ s21 σ21 H21 _ I21 q21) fun z s22 ⟨yv, H22, I22, r22, acc, hD22, hz22, nx⟩ => ?_
              refine app_ok (X := X.blk s3 H3 scope ce fp) I22 hD22 hz22 r22 fun s23 I23 => ?_
              obtain ⟨m', hm, w'⟩ := hNx2 _ nx
              have pin' : ∀ b ∈ fp2, ∀ o, s20.heap.get? b = some o → s23.heap.get? b = some o ∧ (upd H22 D (.lst (acc ++ [yv]))) b = none := fun b hb o e =>
                let z := I23.pin (b, o) (List.mem_append_right _ (List.mem_append_right _ (mem_pinsAt hb e)))
                ⟨z.1, z.2.1⟩
              refine ⟨m', hm, j2 + 1, _, I23.unpinned.weak (by rw [← hw21, wipe_length]) (fun j v e => by rw [← hw21] at e; exact (wipe_some e).1), T2.keep _ _ _ st20 fun b hb o e => (pin' b hb o e).1, fun b hb => ?_, w'⟩
              obtain ⟨o, e, _⟩ := T2.obj _ _ st20 b hb
              exact (pin' b hb o e).2
          exact lc3_start 1 (.inr rfl) loop2 (T2.self X.A 0 _ _ _ st17 loop2)
      exact lc3_start 0 (.inl rfl) loop1 (T1.self X.A 0 _ _ _ st11 loop1)
  exact codeAny_compStart_list loop (T.self X.A 0 _ _ _ st4 loop)
end
end Sw
/-! text Sw13 -/
set_option maxHeartbeats 4000000
namespace Sw
open PySem L2
variable {α β γ δ κ : Type}
section
variable {B : Bas} {H H' : Hp} {σ σ2 : L2.St} {ρ ρ1 ρ2 ρ3 ρ' : List SV} {τ : List En} {L : List En} {R S1 S2 S : SV} {ta tb te tl td tk tv : TE} {tt tu : TT} {as : TA} {a : α} {b : β} {c : γ} {T : Ty α} {U : Ty β} {W : Ty γ} {Y : Ty δ} {i j : Nat} {K : PySem.W.Frag} {N : Kn} {A : Type}
theorem core_any : ∀ {σ2 σ : L2.St} {ρ2 ρ : List SV} {τ : List En}, σ2.length = ρ2.length → σ.length = σ2.length → ρ.length = ρ2.length → (∀ i, i < ρ.length → ρ[i]? = some any ∨ (σ[i]? = σ2[i]? ∧ ρ[i]? = ρ2[i]?)) → Core B H (τ ++ σ2.zip ρ2) → Core B H (τ ++ σ.zip ρ)
  | [], [], [], [], _, _, _, _, _, c => c
  | v2 :: σ2, v :: σ, R2 :: ρ2, R :: ρ, τ, h1, h2, h3, h, c => by
    have c1 : Core B H (((v2, R2) :: τ) ++ σ2.zip ρ2) := c.perm List.perm_middle
    have c2 := core_any (τ := (v2, R2) :: τ) (σ := σ) (ρ := ρ) (by simpa using h1) (by simpa using h2) (by simpa using h3) (fun i hi => by simpa using h (i + 1) (by simpa using hi)) c1
    have c3 : Core B H ((v, R) :: (τ ++ σ.zip ρ)) := by
      rcases h 0 (by simp) with e | ⟨e1, e2⟩
      · have e' : R = any := by simpa using e
        subst e'
        exact (show Core B H ((v2, R2) :: (τ ++ σ.zip ρ)) from c2).cut.add fun _ _ _ => rfl
      · have e1' : v = v2 := by simpa using e1
        have e2' : R = R2 := by simpa using e2
        subst e1' e2'
        exact c2
    exact c3.perm List.perm_middle.symm
theorem St.any_of (st : St B H σ2 ρ2 τ) (h2 : σ.length = σ2.length) (h3 : ρ.length = ρ2.length) (h : ∀ i, i < ρ.length → ρ[i]? = some any ∨ (σ[i]? = σ2[i]? ∧ ρ[i]? = ρ2[i]?)) : St B H σ ρ τ :=
  ⟨by rw [h2, h3]; exact st.len, core_any st.len h2 h3 h st.core⟩
/-- what goes through a sequence that stands still -/
structure JO (J : It) (X : Hp → Prop) (vs : List V) : Prop where
  stop : ∀ i H, X H → vs.length ≤ i → J.stop i H
  go : ∀ i H, X H → i < vs.length → J.go i H
  yld : ∀ i H x H', X H → J.yld i H x H' → H' = H ∧ vs[i]? = some x
def EvI (B : Bas) (ρ : List SV) (wi : TI) (T : Ty α) (xs : List α) : Prop := ∀ (H : Hp) (σ : L2.St) (τ : List En) (R : It → Hp → Prop), St B H σ ρ τ →
  (∀ (J : It) (e0 : En) (X : Hp → Prop) (vs : List V) (H1 : Hp), JO J X vs → vs.length = xs.length → (∀ (H' : Hp) (L : List En), Core B H' (e0 :: L) → X H') → (∀ (i : Nat) (y : V) (H' : Hp) (L : List En), vs[i]? = some y → Core B H' (e0 :: L) → ∃ x, xs[i]? = some x ∧ Core B H' ((some y, dat T x) :: e0 :: L)) →
    St B H1 σ ρ (e0 :: τ) → R J H1) → wi σ H R
theorem evi_list {xs : List α} (h : EvE B ρ tl (dat (tRow K T) xs) ρ) : EvI B ρ (iList K tl) T xs := fun H σ τ R st k =>
  h H σ τ _ st fun v H1 st1 => by
    obtain ⟨p, vs, rfl, hl, hq, st2⟩ := st1.row
    exact ⟨p, rfl, ⟨vs, hq⟩, k _ _ (fun H => SqL K H p vs) vs H1 ⟨fun i H q h => ⟨vs, q, h⟩, fun i H q h => ⟨vs, vs[i], q, by simp [h]⟩, fun i H x H' q ⟨e, y⟩ => ⟨e, y vs q⟩⟩ hl (fun H' L c => c.rowq) (fun i y H' L hy c => c.rowi hy) st2⟩
theorem evi_tup {xs : List α} (h : EvE B ρ tl (dat (tTupL K T) xs) ρ) : EvI B ρ (iTup K tl) T xs := fun H σ τ R st k =>
  h H σ τ _ st fun v H1 st1 => by
    obtain ⟨p, vs, rfl, hl, hq, st2⟩ := st1.tupl
    exact ⟨p, rfl, ⟨vs, hq⟩, k _ _ (fun H => SqT K H p vs) vs H1 ⟨fun i H q h => ⟨vs, q, h⟩, fun i H q h => ⟨vs, vs[i], q, by simp [h]⟩, fun i H x H' q ⟨e, y⟩ => ⟨e, y vs q⟩⟩ hl (fun H' L c => c.tupq) (fun i y H' L hy c => c.tupi hy) st2⟩
theorem wipe_get {σ : L2.St} : ∀ {vs : List Nat} {i : Nat}, i ∉ vs → (wipe σ vs)[i]? = σ[i]?
  | [], _, _ => rfl
  | v :: vs, i, h => by
    unfold wipe
    rw [List.getElem?_set_ne (show v ≠ i from fun e => h (e ▸ List.mem_cons_self))]
    exact wipe_get fun z => h (List.mem_cons_of_mem _ z)
theorem wipe_get_in {σ : L2.St} : ∀ {vs : List Nat} {i : Nat}, i ∈ vs → i < σ.length → (wipe σ vs)[i]? = some none
  | v :: vs, i, h, hi => by
    unfold wipe
    by_cases e : v = i
    · rw [e, List.getElem?_set_self (by rw [wipe_length]; exact hi)]
    · rw [List.getElem?_set_ne e]
      exact wipe_get_in (by rcases List.mem_cons.mp h with z | z; exact absurd z.symm e; exact z) hi
theorem wipe_eq {σ σ' : L2.St} {vs : List Nat} (hl : σ'.length = σ.length) (h : ∀ i, i ∉ vs → σ'[i]? = σ[i]?) : wipe σ' vs = wipe σ vs := by
  refine List.ext_getElem? fun i => ?_
  by_cases hi : i ∈ vs
  · by_cases hs : i < σ.length
    · rw [wipe_get_in hi hs, wipe_get_in hi (by omega)]
    · rw [List.getElem?_eq_none (by rw [wipe_length]; omega), List.getElem?_eq_none (by rw [wipe_length]; omega)]
  · rw [wipe_get hi, wipe_get hi, h i hi]
theorem wipe_turn {σ : L2.St} {vs : List Nat} {j : Nat} {x : Option V} (hj : j ∈ vs) : wipe ((wipe σ vs).set j x) vs = wipe σ vs :=
  wipe_eq (by rw [List.length_set, wipe_length]) fun i hi => by
    rw [List.getElem?_set_ne (show j ≠ i from fun e => hi (e ▸ hj)), wipe_get hi]
/-- a turn's names: into it and out again -/
theorem St.turn {x : V} {vs : List Nat} (hv : ∀ i ∈ vs, i < ρ.length → ρ[i]? = some any) (st : St B H σ ρ ((some x, R) :: τ)) (hj : j < ρ.length) : St B H ((wipe σ vs).set j (some x)) (ρ.set j R) τ := by
  refine St.asg (St.any_of st (wipe_length _ _) rfl fun i hi => ?_) hj
  by_cases h : i ∈ vs
  · exact .inl (hv i h hi)
  · exact .inr ⟨wipe_get h, rfl⟩
theorem St.unturn {x : V} {vs : List Nat} (hl : σ.length = ρ.length) (hv : ∀ i ∈ vs, i < ρ.length → ρ[i]? = some any) (hj : j ∈ vs) (st : St B H ((wipe σ vs).set j (some x)) (ρ.set j R) τ) : St B H σ ρ τ := by
  refine St.any_of st (by rw [List.length_set, wipe_length]) (by rw [List.length_set]) fun i hi => ?_
  by_cases h : i ∈ vs
  · exact .inl (hv i h hi)
  · exact .inr ⟨by rw [List.getElem?_set_ne (show j ≠ i from fun e => h (e ▸ hj)), wipe_get h], by rw [List.getElem?_set_ne (show j ≠ i from fun e => h (e ▸ hj))]⟩
/-- a list of one owner gets one more item, which is the entry on top -/
theorem Core.push {D : Addr} {acc : List β} {y : β} {w : V} (c : Core B H ((some w, dat U y) :: (some (.ref D), own (.ref D) (oList U) acc) :: L)) :
    ∃ vs, H D = some (.lst vs) ∧ vs.length = acc.length ∧ Core B (upd H D (.lst (vs ++ [w]))) ((some (.ref D), own (.ref D) (oList U) (acc ++ [y])) :: L) := by
  have st : St B H [some (.ref D)] [own (.ref D) (oList U) acc] ((some w, dat U y) :: L) := ⟨rfl, by
    show Core B H (((some w, dat U y) :: L) ++ [(some (.ref D), own (.ref D) (oList U) acc)])
    exact c.perm ((List.perm_append_singleton _ _).symm.cons _)⟩
  obtain ⟨F, fs, fp, cc, p, vs, e1, e2, e3, e4⟩ := own_at (m := 0) (τ := (some w, dat U y) :: L) st.len rfl st.core
  cases e1
  refine ⟨vs, e3, e4.length, ?_⟩
  have := (st.writeT (m := 0) (O' := oList U) (k1 := acc ++ [y]) (p := D) (o := .lst (vs ++ [w])) rfl (fun F fp _ hw ⟨p', vs', f1, f2, f3, f4⟩ => by
    cases f1
    rw [e3] at f3
    cases f3
    exact ⟨by rw [f2]; exact List.mem_cons_self, D, vs ++ [w], rfl, f2, upd_same, pair_snoc f4 hw⟩)).core
  exact Core.perm (L := L ++ [(some (.ref D), own (.ref D) (oList U) (acc ++ [y]))]) this (List.perm_append_singleton _ _)
theorem lc3_go {J : It} {X : Hp → Prop} {vs : List V} (jo : JO J X vs) (Pv : Nat → Hp → Prop) {G : Hp → Prop} {Turn : (Hp → Prop) → V → Hp → Prop} (hX : ∀ i H, Pv i H → X H) (h0 : Pv 0 H) (ht : ∀ i x H, vs[i]? = some x → Pv i H → Turn (Pv (i + 1)) x H) (hd : ∀ H, Pv vs.length H → G H) :
    ∃ W : Nat → Nat → Hp → Prop, (∃ m, W 0 m H) ∧ ∀ i m H, W i m H → (J.stop i H ∧ G H) ∨ (J.go i H ∧ ∃ Nx : Hp → Prop, (∀ H', Nx H' → ∃ m', m' < m ∧ W (i + 1) m' H') ∧ ∀ x H', J.yld i H x H' → Turn Nx x H') := by
  refine ⟨fun i m H => m = vs.length - i ∧ i ≤ vs.length ∧ Pv i H, ⟨vs.length, by simp, Nat.zero_le _, h0⟩, ?_⟩
  rintro i m H ⟨rfl, hi, p⟩
  by_cases hlt : i < vs.length
  · refine .inr ⟨jo.go i H (hX i H p) hlt, Pv (i + 1), fun H' p' => ⟨vs.length - (i + 1), by omega, rfl, hlt, p'⟩, fun x H' y => ?_⟩
    obtain ⟨rfl, hx⟩ := jo.yld i H x H' (hX i H p) y
    exact ht i x _ hx p
  · have e : i = vs.length := by omega
    subst e
    exact .inl ⟨jo.stop _ H (hX _ H p) (Nat.le_refl _), hd H p⟩
theorem fr_lc3 {W0 W1 W2 : TI} {xs : List α} {ys : List γ} {zs : List δ} {j0 j1 j2 : Nat} {g : α → γ → δ → β} (h0 : ρ[j0]? = some any) (h1 : ρ[j1]? = some any) (h2 : ρ[j2]? = some any) (n1 : j0 ≠ j1) (n2 : j0 ≠ j2) (n3 : j1 ≠ j2)
    (hi0 : EvI B ρ W0 T xs) (hi1 : ∀ x ∈ xs, EvI B (ρ.set j0 (dat T x)) W1 W ys) (hi2 : ∀ x ∈ xs, ∀ y ∈ ys, EvI B ((ρ.set j0 (dat T x)).set j1 (dat W y)) W2 Y zs)
    (he : ∀ x ∈ xs, ∀ y ∈ ys, ∀ z ∈ zs, EvE B (((ρ.set j0 (dat T x)).set j1 (dat W y)).set j2 (dat Y z)) te (dat U (g x y z)) (((ρ.set j0 (dat T x)).set j1 (dat W y)).set j2 (dat Y z)))
    (hz : (xs.flatMap fun x => ys.flatMap fun y => zs.map fun z => g x y z).length < sizeLine) :
    EvE B ρ (tLc3 W0 (gName j0) W1 (gName j1) W2 (gName j2) te [j0, j1, j2] [j1, j2] [j2]) (fre (oList U) (xs.flatMap fun x => ys.flatMap fun y => zs.map fun z => g x y z)) ρ := fun H σ τ Q st q =>
  hi0 H σ τ _ st fun J e0 X vs H1 jo hl hX hy st1 => fun D hD => by
    have hl0 : j0 < ρ.length := (List.getElem?_eq_some_iff.mp h0).1
    have hl1 : j1 < ρ.length := (List.getElem?_eq_some_iff.mp h1).1
    have hl2 : j2 < ρ.length := (List.getElem?_eq_some_iff.mp h2).1
    have hlen := st1.len
    let F3 := fun (x : α) (y : γ) => zs.map fun z => g x y z
    let F2 := fun (x : α) => ys.flatMap (F3 x)
    have total : ∀ (n : Nat) (x : α) (m : Nat) (y : γ) (l : Nat) (z : δ), xs[n]? = some x → ys[m]? = some y → zs[l]? = some z → ((xs.take n).flatMap F2 ++ (ys.take m).flatMap (F3 x) ++ (zs.take l).map (fun z => g x y z)).length < sizeLine := by
      intro n x m y l z hx hy hz'
      refine Nat.lt_of_le_of_lt ?_ hz
      obtain ⟨hn, ex⟩ := List.getElem?_eq_some_iff.mp hx
      obtain ⟨hm, ey⟩ := List.getElem?_eq_some_iff.mp hy
      have e1 : xs = xs.take n ++ x :: xs.drop (n + 1) := by rw [← ex, List.getElem_cons_drop, List.take_append_drop]
      have e2 : ys = ys.take m ++ y :: ys.drop (m + 1) := by rw [← ey, List.getElem_cons_drop, List.take_append_drop]
      have l3 : ((zs.take l).map fun z => g x y z).length ≤ (F3 x y).length := by simp [F3]; omega
      have l2 : ((ys.take m).flatMap (F3 x)).length + (F3 x y).length ≤ (F2 x).length := by
        show _ ≤ (ys.flatMap (F3 x)).length
        conv => rhs; rw [e2]
        rw [List.flatMap_append, List.flatMap_cons, List.length_append, List.length_append]
        omega
      have l1 : ((xs.take n).flatMap F2).length + (F2 x).length ≤ (xs.flatMap F2).length := by
        conv => rhs; rw [e1]
        rw [List.flatMap_append, List.flatMap_cons, List.length_append, List.length_append]
        omega
      show _ ≤ (xs.flatMap F2).length
      rw [List.length_append, List.length_append]
      omega
    have av0 : ∀ i ∈ [j0, j1, j2], i < ρ.length → ρ[i]? = some any := fun i hi _ => by
      rcases List.mem_cons.mp hi with rfl | hi
      · exact h0
      · rcases List.mem_cons.mp hi with rfl | hi
        · exact h1
        · rw [List.mem_singleton.mp hi]; exact h2
    obtain ⟨FF, ffs, cc⟩ := id st1.core
    have hio : D ∉ B.io := cc.noio hD
    refine lc3_go jo (Turn := fun Nx x H' => gName j0 x (wipe σ [j0, j1, j2]) H' fun σ2 H2 => wipe σ2 [j0, j1, j2] = wipe σ [j0, j1, j2] ∧ W1 σ2 H2 _) (fun i H' => Core B H' ((some (.ref D), own (.ref D) (oList U) ((xs.take i).flatMap F2)) :: e0 :: (τ ++ σ.zip ρ))) ?_ ?_ ?_ ?_
    · exact fun i H' c => hX H' _ c.swap
    · exact Core.allocO (o := .lst []) (s := own (.ref D) (oList U) []) st1.core hD fun F _ _ => ⟨rfl, D, [], rfl, rfl, upd_same, .nil⟩
    · intro i v H2 hv c
      obtain ⟨x, hx, c2⟩ := hy i v H2 _ hv c.swap
      have hxm : x ∈ xs := List.mem_of_getElem? hx
      have st2 : St B H2 ((wipe σ [j0, j1, j2]).set j0 (some v)) (ρ.set j0 (dat T x)) ((some (.ref D), own (.ref D) (oList U) ((xs.take i).flatMap F2)) :: e0 :: τ) :=
        St.turn av0 ⟨hlen, c2.perm ((List.Perm.swap _ _ _).cons _)⟩ hl0
      refine ⟨wipe_turn (by simp), ?_⟩
      have av1 : ∀ k ∈ [j1, j2], k < (ρ.set j0 (dat T x)).length → (ρ.set j0 (dat T x))[k]? = some any := fun k hk _ => by
        rcases List.mem_cons.mp hk with rfl | hk
        · rw [List.getElem?_set_ne n1]; exact h1
        · rw [List.mem_singleton.mp hk, List.getElem?_set_ne n2]; exact h2
      generalize hσ2 : (wipe σ [j0, j1, j2]).set j0 (some v) = σ2 at st2 ⊢
      refine hi1 x hxm H2 σ2 _ _ st2 fun J1 e1 X1 vs1 H3 jo1 hl1' hX1 hy1 st3 => ?_
      refine lc3_go jo1 (Turn := fun Nx x H' => gName j1 x (wipe σ2 [j1, j2]) H' fun σ3 H5 => wipe σ3 [j1, j2] = wipe σ2 [j1, j2] ∧ W2 σ3 H5 _) (fun m H' => Core B H' (e1 :: (some (.ref D), own (.ref D) (oList U) ((xs.take i).flatMap F2 ++ (ys.take m).flatMap (F3 x))) :: e0 :: (τ ++ σ2.zip (ρ.set j0 (dat T x))))) ?_ ?_ ?_ ?_
      · exact fun m H' c => hX1 H' _ c
      · have e : (xs.take i).flatMap F2 ++ (ys.take 0).flatMap (F3 x) = (xs.take i).flatMap F2 := by simp
        rw [e]; exact st3.core
      · intro m v1 H4 hv1 c
        obtain ⟨y, hym, c2⟩ := hy1 m v1 H4 _ hv1 c
        have hymm : y ∈ ys := List.mem_of_getElem? hym
        have st4 : St B H4 ((wipe σ2 [j1, j2]).set j1 (some v1)) ((ρ.set j0 (dat T x)).set j1 (dat W y)) (e1 :: (some (.ref D), own (.ref D) (oList U) ((xs.take i).flatMap F2 ++ (ys.take m).flatMap (F3 x))) :: e0 :: τ) :=
          St.turn av1 ⟨st2.len, c2⟩ (by rw [List.length_set]; exact hl1)
        refine ⟨wipe_turn (by simp), ?_⟩
        have av2 : ∀ k ∈ [j2], k < ((ρ.set j0 (dat T x)).set j1 (dat W y)).length → ((ρ.set j0 (dat T x)).set j1 (dat W y))[k]? = some any := fun k hk _ => by
          rw [List.mem_singleton.mp hk, List.getElem?_set_ne n3, List.getElem?_set_ne n2]; exact h2
        generalize hσ3 : (wipe σ2 [j1, j2]).set j1 (some v1) = σ3 at st4 ⊢
        refine hi2 x hxm y hymm H4 σ3 _ _ st4 fun J2 e2 X2 vs2 H5 jo2 hl2' hX2 hy2 st5 => ?_
        refine lc3_go jo2 (Turn := fun Nx x H' => gName j2 x (wipe σ3 [j2]) H' fun σ4 H7 => wipe σ4 [j2] = wipe σ3 [j2] ∧ te σ4 H7 _) (fun l H' => Core B H' (e2 :: e1 :: (some (.ref D), own (.ref D) (oList U) ((xs.take i).flatMap F2 ++ (ys.take m).flatMap (F3 x) ++ (zs.take l).map (fun z => g x y z))) :: e0 :: (τ ++ σ3.zip ((ρ.set j0 (dat T x)).set j1 (dat W y))))) ?_ ?_ ?_ ?_
        · exact fun l H' c => hX2 H' _ c
        · have e : (xs.take i).flatMap F2 ++ (ys.take m).flatMap (F3 x) ++ (zs.take 0).map (fun z => g x y z) = (xs.take i).flatMap F2 ++ (ys.take m).flatMap (F3 x) := by simp
          rw [e]; exact st5.core
        · intro l v2 H6 hv2 c
          obtain ⟨z, hzm, c2⟩ := hy2 l v2 H6 _ hv2 c
          have hzmm : z ∈ zs := List.mem_of_getElem? hzm
          have st6 : St B H6 ((wipe σ3 [j2]).set j2 (some v2)) (((ρ.set j0 (dat T x)).set j1 (dat W y)).set j2 (dat Y z)) (e2 :: e1 :: (some (.ref D), own (.ref D) (oList U) ((xs.take i).flatMap F2 ++ (ys.take m).flatMap (F3 x) ++ (zs.take l).map (fun z => g x y z))) :: e0 :: τ) :=
            St.turn av2 ⟨st4.len, c2⟩ (by rw [List.length_set, List.length_set]; exact hl2)
          refine ⟨wipe_turn (by simp), ?_⟩
          refine he x hxm y hymm z hzmm H6 _ _ _ st6 fun w H8 st8 => ?_
          have p8 : St B H8 ((wipe σ3 [j2]).set j2 (some v2)) (((ρ.set j0 (dat T x)).set j1 (dat W y)).set j2 (dat Y z)) ((some w, dat U (g x y z)) :: (some (.ref D), own (.ref D) (oList U) ((xs.take i).flatMap F2 ++ (ys.take m).flatMap (F3 x) ++ (zs.take l).map (fun z => g x y z))) :: e2 :: e1 :: e0 :: τ) :=
            ⟨st8.len, st8.core.perm (by
              refine List.Perm.cons _ ?_
              refine ((List.Perm.swap _ _ _).cons _).trans (.trans ?_ (.refl _))
              exact .swap _ _ _)⟩
          have st9 := St.unturn (ρ := (ρ.set j0 (dat T x)).set j1 (dat W y)) st4.len av2 (by simp) p8
          obtain ⟨acc, ha, hal, c9⟩ := (show Core B H8 ((some w, dat U (g x y z)) :: (some (.ref D), own (.ref D) (oList U) _) :: (e2 :: e1 :: e0 :: τ ++ σ3.zip _)) from st9.core).push
          refine ⟨acc, ha, by rw [hal]; exact total i x m y l z hx hym hzm, ?_⟩
          have e : (zs.take (l + 1)).map (fun z => g x y z) = (zs.take l).map (fun z => g x y z) ++ [g x y z] := by
            obtain ⟨hl', ez⟩ := List.getElem?_eq_some_iff.mp hzm
            rw [List.take_succ_eq_append_getElem hl', ez, List.map_append]; rfl
          rw [e, ← List.append_assoc]
          exact c9.perm ((List.Perm.swap _ _ _).trans ((List.Perm.swap _ _ _).cons _))
        · intro H6 c
          have e : (ys.take (m + 1)).flatMap (F3 x) = (ys.take m).flatMap (F3 x) ++ F3 x y := by
            obtain ⟨hl', ez⟩ := List.getElem?_eq_some_iff.mp hym
            rw [List.take_succ_eq_append_getElem hl', ez, List.flatMap_append]; simp
          have e3 : (zs.take vs2.length).map (fun z => g x y z) = F3 x y := by rw [hl2', List.take_length]
          rw [e3, List.append_assoc, ← e] at c
          have c2 : Core B H6 ((e1 :: (some (.ref D), own (.ref D) (oList U) ((xs.take i).flatMap F2 ++ (ys.take (m + 1)).flatMap (F3 x))) :: e0 :: τ) ++ σ3.zip ((ρ.set j0 (dat T x)).set j1 (dat W y))) := c.cut
          subst hσ3
          exact (St.unturn (τ := e1 :: (some (.ref D), own (.ref D) (oList U) ((xs.take i).flatMap F2 ++ (ys.take (m + 1)).flatMap (F3 x))) :: e0 :: τ) st2.len av1 (by simp) ⟨st4.len, c2⟩).core
      · intro H4 c
        have e : (xs.take (i + 1)).flatMap F2 = (xs.take i).flatMap F2 ++ F2 x := by
          obtain ⟨hl', ez⟩ := List.getElem?_eq_some_iff.mp hx
          rw [List.take_succ_eq_append_getElem hl', ez, List.flatMap_append]; simp
        have e3 : (ys.take vs1.length).flatMap (F3 x) = F2 x := by rw [hl1', List.take_length]
        rw [e3, ← e] at c
        have c2 : Core B H4 (((some (.ref D), own (.ref D) (oList U) ((xs.take (i + 1)).flatMap F2)) :: e0 :: τ) ++ σ2.zip (ρ.set j0 (dat T x))) := c.cut
        subst hσ2
        exact (St.unturn (τ := (some (.ref D), own (.ref D) (oList U) ((xs.take (i + 1)).flatMap F2)) :: e0 :: τ) hlen av0 (by simp) ⟨st2.len, c2⟩).core
    · intro H2 c
      rw [hl, List.take_length] at c
      refine q _ H2 ⟨hlen, ?_⟩
      have c2 : Core B H2 ((some (.ref D), own (.ref D) (oList U) (xs.flatMap F2)) :: (τ ++ σ.zip ρ)) := c.swap.cut
      exact c2.weak fun F fp _ ⟨h1, h2⟩ => .inl ⟨.ref D, rfl, h2, fun q hq => by
        obtain ⟨p', _, h5, h6, _⟩ := h2
        cases h5
        rw [h6] at hq
        rw [List.mem_singleton.mp hq]
        exact hio⟩
end
end Sw
/-! text Sw14 -/
set_option maxHeartbeats 4000000
/-! Sw14: objects of one owner lent to a block of statements as things that stand still. -/
namespace Sw
open PySem L2
variable {α β γ δ κ : Type}
/-- a thing that stands still, its value known -/
def idt (x : V) (T : Ty α) (a : α) : SV where
  ok _ F _ v fp := fp = [] ∧ v = some x ∧ T.rep F x a
  stab := fun ⟨h1, h2, h3⟩ m _ => ⟨h1, h2, T.mono m h3⟩
  ioch := fun h _ => h
theorem fr_idt {x : V} {T : Ty α} {a : α} : Fr (idt x T a) := fun h => h
/-- what is lent: an instance, or a list that begins with a reference -/
def ZO (o : HO) : Prop := (∃ C dx fs, o = .ins C dx fs) ∨ ∃ q r, o = .lst (V.ref q :: r)
def Cut (F F' : Hp) : Prop := ∀ y o, F y = some o → F' y = some o ∨ ZO o
/-- what is known does not hang on what is lent -/
def Era (s : SV) : Prop := ∀ {io : List Addr} {F F' H : Hp} {v : Option V} {fp : List Addr}, Cut F F' → s.ok io F H v fp → s.ok io F' H v fp
/-- s lent as s' -/
structure Brw (s s' : SV) : Prop where
  lend : ∀ {io io' : List Addr} {F F' H : Hp} {v : Option V} {fp : List Addr}, s.ok io F H v fp → Same F F' → Same F' H → (∀ p ∈ fp, ∀ o, H p = some o → F' p = some o) → s'.ok io' F' H v []
  zo : ∀ {io : List Addr} {F H : Hp} {v : Option V} {fp : List Addr}, s.ok io F H v fp → ∀ p ∈ fp, ∃ o, H p = some o ∧ ZO o
  val : ∀ {io io' io2 : List Addr} {F F' F'' H H' : Hp} {v v' : Option V} {fp fp' : List Addr}, s.ok io F H v fp → s'.ok io' F' H' v' fp' → Same F F'' → (∀ p ∈ fp, H' p = H p) → s.ok io2 F'' H' v' fp
section
variable {B : Bas} {H H' : Hp} {σ : L2.St} {ρ ρ1 ρ2 ρ3 ρ' : List SV} {τ : List En} {L : List En} {R S1 S2 S s : SV} {ta tb te tl td tk tv : TE} {tt tu : TT} {as : TA} {a : α} {b : β} {c : γ} {T : Ty α} {U : Ty β} {W : Ty γ} {i j : Nat} {K : PySem.W.Frag} {N : Kn} {A : Type}
theorem ev_varI {x : V} (h : ρ[i]? = some (idt x T a)) : EvE B ρ (tVar i) (dat T a) ρ := fun H σ τ Q st q => by
  obtain ⟨v, e, m⟩ := mem_zip st.len h
  obtain ⟨F, fs, c⟩ := id st.core
  obtain ⟨fp, _, h1, h2, h3⟩ := Sl.mem c.sl (List.mem_append_right τ m)
  refine ⟨x, by rw [e]; exact congrArg some h2, q x H ⟨st.len, st.core.add fun F' fs' c' => ?_⟩⟩
  obtain ⟨fp', _, h1', h2', h3'⟩ := Sl.mem c'.sl (List.mem_append_right τ m)
  exact ⟨rfl, _, rfl, h3'⟩
theorem era_any : Era any := fun _ h => h
theorem era_isv {x : V} : Era (isv x) := fun _ h => h
theorem era_str {x : Str} : Era (dat tStr x) := fun _ h => h
theorem era_int {x : Int} : Era (dat tInt x) := fun _ h => h
theorem era_bl {x : Bool} : Era (dat tBl x) := fun _ h => h
theorem era_non {x : Unit} : Era (dat tNon x) := fun _ h => h
theorem cut_strs {F F' : Hp} {p : Addr} {xs : List Str} (h : F p = some (.lst (xs.map V.str))) (c : Cut F F') : F' p = some (.lst (xs.map V.str)) := by
  rcases c _ _ h with h | ⟨C, dx, fs, e⟩ | ⟨q, r, e⟩
  · exact h
  · cases e
  · cases xs with
    | nil => cases e
    | cons x xs => cases e
theorem strs_of {F : Hp} {v : V} {xs : List Str} (h : (tList tStr).rep F v xs) : ∃ p, v = .ref p ∧ F p = some (.lst (xs.map V.str)) := by
  obtain ⟨p, vs, e, h, r⟩ := h
  rw [pair_str r] at h
  exact ⟨p, e, h⟩
theorem pair_strs {F : Hp} : ∀ xs : List Str, Paired (tStr.rep F) (xs.map V.str) xs
  | [] => .nil
  | _ :: r => .cons rfl (pair_strs r)
theorem strs_to {F : Hp} {p : Addr} {xs : List Str} (h : F p = some (.lst (xs.map V.str))) : (tList tStr).rep F (.ref p) xs := ⟨p, _, rfl, h, pair_strs xs⟩
theorem cutT_strs {F F' : Hp} {v : V} {xs : List Str} (c : Cut F F') (h : (tList tStr).rep F v xs) : (tList tStr).rep F' v xs := by
  obtain ⟨p, e, h2⟩ := strs_of h
  rw [e]
  exact strs_to (cut_strs h2 c)
theorem era_strs {xs : List Str} : Era (dat (tList tStr) xs) := fun c ⟨h1, x, h2, h3⟩ => ⟨h1, x, h2, cutT_strs c h3⟩
theorem era_ostrs {xs : Option (List Str)} : Era (dat (tOpt (tList tStr)) xs) := fun c ⟨h1, x, h2, h3⟩ => ⟨h1, x, h2, by
  cases xs with
  | none => exact h3
  | some xs => exact ⟨h3.1, cutT_strs c h3.2⟩⟩
/-- lending, slot by slot -/
inductive Lnd : List SV → List SV → List Bool → Prop
  | nil : Lnd [] [] []
  | keep {s : SV} {ρ ρ' : List SV} {bs : List Bool} (r : Lnd ρ ρ' bs) : Lnd (s :: ρ) (s :: ρ') (false :: bs)
  | lend {s s' : SV} {ρ ρ' : List SV} {bs : List Bool} (h : Brw s s') (r : Lnd ρ ρ' bs) : Lnd (s :: ρ) (s' :: ρ') (true :: bs)
/-- and back: what was lent is as before, the others must not hang on it -/
inductive Bck : List SV → List SV → List SV → List SV → List Bool → Prop
  | nil : Bck [] [] [] [] []
  | keep {s s0 s1 : SV} {ρ ρ' ρ1 ρ2 : List SV} {bs : List Bool} (h : Era s1) (r : Bck ρ ρ' ρ1 ρ2 bs) : Bck (s :: ρ) (s0 :: ρ') (s1 :: ρ1) (s1 :: ρ2) (false :: bs)
  | lend {s s' : SV} {ρ ρ' ρ1 ρ2 : List SV} {bs : List Bool} (h : Brw s s') (r : Bck ρ ρ' ρ1 ρ2 bs) : Bck (s :: ρ) (s' :: ρ') (s' :: ρ1) (s :: ρ2) (true :: bs)
/-- the footprints that are lent, and the others -/
def lentF : List Bool → List (List Addr) → List Addr
  | true :: bs, fp :: fs => fp ++ lentF bs fs
  | false :: bs, _ :: fs => lentF bs fs
  | _, _ => []
def restF : List Bool → List (List Addr) → List (List Addr)
  | true :: bs, _ :: fs => [] :: restF bs fs
  | false :: bs, fp :: fs => fp :: restF bs fs
  | _, _ => []
theorem lentF_sub {p : Addr} : ∀ {bs : List Bool} {fs : List (List Addr)}, p ∈ lentF bs fs → p ∈ fs.flatten
  | true :: bs, fp :: fs, h => by
    rw [List.flatten_cons]
    rcases List.mem_append.mp (show p ∈ fp ++ lentF bs fs from h) with h | h
    · exact List.mem_append_left _ h
    · exact List.mem_append_right _ (lentF_sub h)
  | false :: bs, fp :: fs, h => by
    rw [List.flatten_cons]
    exact List.mem_append_right _ (lentF_sub (bs := bs) h)
theorem restF_sub {p : Addr} : ∀ {bs : List Bool} {fs : List (List Addr)}, p ∈ (restF bs fs).flatten → p ∈ fs.flatten
  | true :: bs, fp :: fs, h => by
    rw [List.flatten_cons]
    exact List.mem_append_right _ (restF_sub (bs := bs) h)
  | false :: bs, fp :: fs, h => by
    have h' : p ∈ fp ++ (restF bs fs).flatten := h
    rw [List.flatten_cons]
    rcases List.mem_append.mp h' with h | h
    · exact List.mem_append_left _ h
    · exact List.mem_append_right _ (restF_sub h)
theorem restF_nd : ∀ {bs : List Bool} {fs : List (List Addr)}, fs.flatten.Nodup → (restF bs fs).flatten.Nodup
  | true :: bs, fp :: fs, h => by
    rw [List.flatten_cons] at h
    exact restF_nd (bs := bs) (List.nodup_append.mp h).2.1
  | false :: bs, fp :: fs, h => by
    rw [List.flatten_cons] at h
    obtain ⟨h1, h2, h3⟩ := List.nodup_append.mp h
    show (fp ++ (restF bs fs).flatten).Nodup
    exact List.nodup_append.mpr ⟨h1, restF_nd h2, fun x hx y hy => h3 x hx y (restF_sub hy)⟩
  | [], _, _ => List.nodup_nil
  | true :: _, [], _ => List.nodup_nil
  | false :: _, [], _ => List.nodup_nil
theorem lent_rest {p : Addr} : ∀ {bs : List Bool} {fs : List (List Addr)}, fs.flatten.Nodup → p ∈ lentF bs fs → p ∉ (restF bs fs).flatten
  | true :: bs, fp :: fs, h, hp => by
    rw [List.flatten_cons] at h
    obtain ⟨h1, h2, h3⟩ := List.nodup_append.mp h
    show p ∉ ([] ++ (restF bs fs).flatten)
    rw [List.nil_append]
    rcases List.mem_append.mp (show p ∈ fp ++ lentF bs fs from hp) with hp | hp
    · exact fun z => h3 p hp p (restF_sub z) rfl
    · exact lent_rest h2 hp
  | false :: bs, fp :: fs, h, hp => by
    rw [List.flatten_cons] at h
    obtain ⟨h1, h2, h3⟩ := List.nodup_append.mp h
    show p ∉ (fp ++ (restF bs fs).flatten)
    intro z
    rcases List.mem_append.mp z with z | z
    · exact h3 p z p (lentF_sub (bs := bs) hp) rfl
    · exact lent_rest (bs := bs) h2 hp z
theorem lnd_sl {io io' : List Addr} {F F' : Hp} {ρ ρ' : List SV} {bs : List Bool} (l : Lnd ρ ρ' bs) : ∀ {σ : L2.St} {fs : List (List Addr)}, σ.length = ρ.length → Sl io F H (σ.zip ρ) fs → (∀ e ∈ σ.zip ρ, Fr e.2) → Same F F' → Same F' H → (∀ p ∈ lentF bs fs, ∀ o, H p = some o → F' p = some o) →
    Sl io' F' H (σ.zip ρ') (restF bs fs) := by
  induction l with
  | nil =>
    intro σ fs hl h _ _ _ _
    cases σ with
    | nil => cases fs with
      | nil => trivial
      | cons _ _ => exact h.elim
    | cons _ _ => cases hl
  | keep r ih =>
    intro σ fs hl h hf m m2 hp
    cases σ with
    | nil => cases hl
    | cons v σ => cases fs with
      | nil => exact h.elim
      | cons fp fs => exact ⟨SV.stab _ (hf _ List.mem_cons_self h.1) m fun _ _ => rfl, ih (by simpa using hl) h.2 (fun e he => hf e (List.mem_cons_of_mem _ he)) m m2 hp⟩
  | lend b r ih =>
    intro σ fs hl h hf m m2 hp
    cases σ with
    | nil => cases hl
    | cons v σ => cases fs with
      | nil => exact h.elim
      | cons fp fs => exact ⟨b.lend h.1 m m2 fun p hq => hp p (List.mem_append_left _ hq), ih (by simpa using hl) h.2 (fun e he => hf e (List.mem_cons_of_mem _ he)) m m2 fun p hq => hp p (List.mem_append_right _ hq)⟩
theorem lnd_zo {io : List Addr} {F : Hp} {ρ ρ' : List SV} {bs : List Bool} (l : Lnd ρ ρ' bs) : ∀ {σ : L2.St} {fs : List (List Addr)}, σ.length = ρ.length → Sl io F H (σ.zip ρ) fs → ∀ p ∈ lentF bs fs, ∃ o, H p = some o ∧ ZO o := by
  induction l with
  | nil =>
    intro σ fs hl h p hp
    cases fs <;> cases hp
  | keep r ih =>
    intro σ fs hl h p hp
    cases σ with
    | nil => cases hl
    | cons v σ => cases fs with
      | nil => exact h.elim
      | cons fp fs => exact ih (by simpa using hl) h.2 p hp
  | lend b r ih =>
    intro σ fs hl h p hp
    cases σ with
    | nil => cases hl
    | cons v σ => cases fs with
      | nil => exact h.elim
      | cons fp fs =>
        rcases List.mem_append.mp (show p ∈ fp ++ lentF _ fs from hp) with hp | hp
        · exact b.zo h.1 p hp
        · exact ih (by simpa using hl) h.2 p hp
/-- back again -/
def backF : List Bool → List (List Addr) → List (List Addr) → List (List Addr)
  | true :: bs, fp :: fs, _ :: gs => fp :: backF bs fs gs
  | false :: bs, _ :: fs, gp :: gs => gp :: backF bs fs gs
  | _, _, _ => []
theorem backF_sub {p : Addr} : ∀ {bs : List Bool} {fs gs : List (List Addr)}, p ∈ (backF bs fs gs).flatten → p ∈ lentF bs fs ∨ p ∈ gs.flatten
  | true :: bs, fp :: fs, gp :: gs, h => by
    have h' : p ∈ fp ++ (backF bs fs gs).flatten := h
    rcases List.mem_append.mp h' with h | h
    · exact .inl (List.mem_append_left _ h)
    · exact (backF_sub h).imp (fun z => List.mem_append_right _ z) fun z => by rw [List.flatten_cons]; exact List.mem_append_right _ z
  | false :: bs, fp :: fs, gp :: gs, h => by
    have h' : p ∈ gp ++ (backF bs fs gs).flatten := h
    rcases List.mem_append.mp h' with h | h
    · exact .inr (by rw [List.flatten_cons]; exact List.mem_append_left _ h)
    · exact (backF_sub (bs := bs) h).imp id fun z => by rw [List.flatten_cons]; exact List.mem_append_right _ z
theorem backF_nd : ∀ {bs : List Bool} {fs gs : List (List Addr)}, fs.flatten.Nodup → gs.flatten.Nodup → (∀ p ∈ lentF bs fs, p ∉ gs.flatten) → (backF bs fs gs).flatten.Nodup
  | true :: bs, fp :: fs, gp :: gs, h1, h2, h3 => by
    rw [List.flatten_cons] at h1 h2
    obtain ⟨a1, a2, a3⟩ := List.nodup_append.mp h1
    obtain ⟨b1, b2, b3⟩ := List.nodup_append.mp h2
    have k3 : ∀ p ∈ lentF bs fs, p ∉ gs.flatten := fun p hp z => h3 p (List.mem_append_right _ hp) (by rw [List.flatten_cons]; exact List.mem_append_right _ z)
    show (fp ++ (backF bs fs gs).flatten).Nodup
    refine List.nodup_append.mpr ⟨a1, backF_nd a2 b2 k3, fun x hx y hy e => ?_⟩
    subst e
    rcases backF_sub hy with z | z
    · exact a3 x hx x (lentF_sub z) rfl
    · exact h3 x (List.mem_append_left _ hx) (by rw [List.flatten_cons]; exact List.mem_append_right _ z)
  | false :: bs, fp :: fs, gp :: gs, h1, h2, h3 => by
    rw [List.flatten_cons] at h1 h2
    obtain ⟨a1, a2, a3⟩ := List.nodup_append.mp h1
    obtain ⟨b1, b2, b3⟩ := List.nodup_append.mp h2
    have k3 : ∀ p ∈ lentF bs fs, p ∉ gs.flatten := fun p hp z => h3 p hp (by rw [List.flatten_cons]; exact List.mem_append_right _ z)
    show (gp ++ (backF bs fs gs).flatten).Nodup
    refine List.nodup_append.mpr ⟨b1, backF_nd a2 b2 k3, fun x hx y hy e => ?_⟩
    subst e
    rcases backF_sub hy with z | z
    · exact h3 x z (by rw [List.flatten_cons]; exact List.mem_append_left _ hx)
    · exact b3 x hx x z rfl
  | [], _, _, _, _, _ => List.nodup_nil
  | true :: _, [], _, _, _, _ => List.nodup_nil
  | true :: _, _ :: _, [], _, _, _ => List.nodup_nil
  | false :: _, [], _, _, _, _ => List.nodup_nil
  | false :: _, _ :: _, [], _, _, _ => List.nodup_nil
theorem bck_sl {io io1 io2 : List Addr} {F F1 F2 : Hp} {ρ ρ' ρ1 ρ2 : List SV} {bs : List Bool} (b : Bck ρ ρ' ρ1 ρ2 bs) : ∀ {σ σ1 : L2.St} {fs gs : List (List Addr)}, σ.length = ρ.length → σ1.length = ρ1.length → Sl io F H (σ.zip ρ) fs → Sl io1 F1 H' (σ1.zip ρ1) gs →
    Same F F2 → Cut F1 F2 → (∀ p ∈ lentF bs fs, H' p = H p) → (∀ p ∈ gs.flatten, p ∉ io1 → p ∉ io2) → Sl io2 F2 H' (σ1.zip ρ2) (backF bs fs gs) := by
  induction b with
  | nil =>
    intro σ σ1 fs gs hl hl1 _ _ _ _ _ _
    cases σ1 with
    | nil => trivial
    | cons _ _ => cases hl1
  | keep e r ih =>
    intro σ σ1 fs gs hl hl1 h k m c hp hi
    cases σ with
    | nil => cases hl
    | cons v σ => cases σ1 with
      | nil => cases hl1
      | cons v1 σ1 => cases fs with
        | nil => exact h.elim
        | cons fp fs => cases gs with
          | nil => exact k.elim
          | cons gp gs =>
            exact ⟨SV.ioch _ (e c k.1) fun p hq => hi p (by rw [List.flatten_cons]; exact List.mem_append_left _ hq), ih (by simpa using hl) (by simpa using hl1) h.2 k.2 m c hp fun p hq => hi p (by rw [List.flatten_cons]; exact List.mem_append_right _ hq)⟩
  | lend e r ih =>
    intro σ σ1 fs gs hl hl1 h k m c hp hi
    cases σ with
    | nil => cases hl
    | cons v σ => cases σ1 with
      | nil => cases hl1
      | cons v1 σ1 => cases fs with
        | nil => exact h.elim
        | cons fp fs => cases gs with
          | nil => exact k.elim
          | cons gp gs =>
            exact ⟨e.val h.1 k.1 m fun p hq => hp p (List.mem_append_left _ hq), ih (by simpa using hl) (by simpa using hl1) h.2 k.2 m c (fun p hq => hp p (List.mem_append_right _ hq)) fun p hq => hi p (by rw [List.flatten_cons]; exact List.mem_append_right _ hq)⟩
open Classical in
/-- the block: what is owned is lent to it -/
theorem ex_block {t : TS} {ρb : List SV} {bs : List Bool} (l : Lnd ρ ρb bs) (hf : ∀ s ∈ ρ, Fr s) (ht : ∀ B' : Bas, (∀ p, p ∈ B'.io → B'.H0 p ≠ none) → ExS B' ρb t { nx := fun ρ1 => ∃ ρ2, Bck ρ ρb ρ1 ρ2 bs ∧ N.nx ρ2, rt := fun R ρ1 => Era R ∧ ∃ ρ2, Bck ρ ρb ρ1 ρ2 bs ∧ N.rt R ρ2 }) : ExS B ρ t N := fun H σ τ D st k1 k2 _ _ => by
  have hfz : ∀ e ∈ σ.zip ρ, Fr e.2 := fun e he => hf e.2 (List.of_mem_zip (a := e.1) (b := e.2) he).2
  obtain ⟨F, fi, pr, k⟩ := (st.core.perm List.perm_append_comm).frame hfz
  have hl := st.len
  have m0 := pr.fh
  let F1 : Hp := fun y => if y ∈ lentF bs fi then H y else F y
  have zo := lnd_zo l hl pr.sl
  have sF1 : Same F F1 := fun x u e => by
    show (if x ∈ lentF bs fi then H x else F x) = some u
    by_cases hx : x ∈ lentF bs fi
    · rw [if_pos hx]; exact m0 x u e
    · rw [if_neg hx]; exact e
  have sF1H : Same F1 H := fun x u e => by
    have e' : (if x ∈ lentF bs fi then H x else F x) = some u := e
    by_cases hx : x ∈ lentF bs fi
    · rw [if_pos hx] at e'; exact e'
    · rw [if_neg hx] at e'; exact m0 x u e'
  have F1l : ∀ p ∈ lentF bs fi, ∀ o, H p = some o → F1 p = some o := fun p hp o ho => by
    show (if p ∈ lentF bs fi then H p else F p) = some o
    rw [if_pos hp]; exact ho
  have F1r : ∀ p ∈ (restF bs fi).flatten, F1 p = none := fun p hp => by
    show (if p ∈ lentF bs fi then H p else F p) = none
    rw [if_neg fun z => lent_rest pr.nd z hp]
    exact (pr.ow p (restF_sub hp)).1
  have pr1 : Pre F1 H (σ.zip ρb) (restF bs fi) := ⟨sF1H, lnd_sl l hl pr.sl hfz sF1 sF1H F1l, restF_nd pr.nd, fun p hp => ⟨F1r p hp, (pr.ow p (restF_sub hp)).2⟩⟩
  have lb : ρb.length = ρ.length := by
    have : ∀ {ρ ρb : List SV} {bs : List Bool}, Lnd ρ ρb bs → ρb.length = ρ.length := fun l => by
      induction l with
      | nil => rfl
      | keep _ ih => simp [ih]
      | lend _ _ ih => simp [ih]
    exact this l
  have bl : ∀ {ρ1 ρ2 : List SV}, Bck ρ ρb ρ1 ρ2 bs → ρ1.length = ρ2.length := fun b => by
    have : ∀ {ρ ρb ρ1 ρ2 : List SV} {bs : List Bool}, Bck ρ ρb ρ1 ρ2 bs → ρ1.length = ρ2.length := fun l => by
      induction l with
      | nil => rfl
      | keep _ _ ih => simp [ih]
      | lend _ _ ih => simp [ih]
    exact this b
  -- the way back
  have back : ∀ {ρ1 ρ2 : List SV} {H' : Hp} {σ' : L2.St} {T0 : List En}, (∀ e ∈ T0, Era e.2) → Bck ρ ρb ρ1 ρ2 bs → σ'.length = ρ1.length → Core ⟨F1, H, (restF bs fi).flatten⟩ H' (T0 ++ σ'.zip ρ1) → Core ⟨F, H, fi.flatten⟩ H' (T0 ++ σ'.zip ρ2) := by
    intro ρ1 ρ2 H' σ' T0 hT b hl' c
    obtain ⟨F', gs, c⟩ := c
    obtain ⟨gT, g1, rfl, sT, s1⟩ := Sl.split c.sl
    have cfr : Same F1 F' := c.fr
    have ckp : ∀ x o, H x = some o → x ∉ (restF bs fi).flatten → H' x = some o := c.kp
    have clv : ∀ x o, H x = some o → ∃ o', H' x = some o' := c.lv
    have cnc : ∀ x o, F1 x = none → H x = some o → F' x = none := c.nc
    have cow : ∀ p ∈ (gT ++ g1).flatten, F' p = none ∧ (∃ o, H' p = some o) ∧ (p ∈ (restF bs fi).flatten ∨ H p = none) := c.ow
    have lentSome : ∀ p ∈ lentF bs fi, ∃ o, H p = some o ∧ F1 p = some o ∧ F' p = some o ∧ ZO o := fun p hp => by
      obtain ⟨o, ho, z⟩ := zo p hp
      exact ⟨o, ho, F1l p hp o ho, cfr p o (F1l p hp o ho), z⟩
    let F2 : Hp := fun y => if y ∈ lentF bs fi then none else F' y
    have notin : ∀ p ∈ lentF bs fi, p ∉ (gT ++ g1).flatten := fun p hp z => by
      obtain ⟨o, _, _, h3, _⟩ := lentSome p hp
      rw [(cow p z).1] at h3; cases h3
    have lnone : ∀ p ∈ lentF bs fi, F p = none := fun p hp => (pr.ow p (lentF_sub hp)).1
    have sFF2 : Same F F2 := fun x u e => by
      show (if x ∈ lentF bs fi then none else F' x) = some u
      rw [if_neg fun z => by rw [lnone x z] at e; cases e]
      exact cfr x u (sF1 x u e)
    have cut : Cut F' F2 := fun y o e => by
      by_cases hy : y ∈ lentF bs fi
      · obtain ⟨o', _, _, h3, z⟩ := lentSome y hy
        rw [e] at h3
        cases h3
        exact .inr z
      · exact .inl (by show (if y ∈ lentF bs fi then none else F' y) = some o; rw [if_neg hy]; exact e)
    have hH : ∀ p ∈ lentF bs fi, H' p = H p := fun p hp => by
      obtain ⟨o, ho, _⟩ := lentSome p hp
      rw [ho]
      exact ckp p o ho (lent_rest pr.nd hp)
    have hio : ∀ p ∈ (gT ++ g1).flatten, p ∉ (restF bs fi).flatten → p ∉ fi.flatten := fun p hp hn hi => by
      rcases (cow p hp).2.2 with h | h
      · exact hn h
      · obtain ⟨o, ho⟩ := (pr.ow p hi).2
        rw [h] at ho; cases ho
    have hio1 : ∀ p ∈ g1.flatten, p ∉ (restF bs fi).flatten → p ∉ fi.flatten := fun p hp => hio p (by rw [List.flatten_append]; exact List.mem_append_right _ hp)
    have slT : ∀ {T0 : List En} {gT : List (List Addr)}, (∀ e ∈ T0, Era e.2) → (∀ p ∈ gT.flatten, p ∉ (restF bs fi).flatten → p ∉ fi.flatten) → Sl (restF bs fi).flatten F' H' T0 gT → Sl fi.flatten F2 H' T0 gT := by
      intro T0
      induction T0 with
      | nil => intro gT _ _ h; cases gT with
        | nil => trivial
        | cons _ _ => exact h.elim
      | cons e T0 ih => intro gT hT hi h; cases gT with
        | nil => exact h.elim
        | cons gp gT => exact ⟨SV.ioch _ (hT e List.mem_cons_self cut h.1) fun p hq => hi p (by rw [List.flatten_cons]; exact List.mem_append_left _ hq), ih (fun e he => hT e (List.mem_cons_of_mem _ he)) (fun p hq => hi p (by rw [List.flatten_cons]; exact List.mem_append_right _ hq)) h.2⟩
    have nd := c.nd
    rw [List.flatten_append] at nd
    obtain ⟨n1, n2, n3⟩ := List.nodup_append.mp nd
    have inT : ∀ p ∈ gT.flatten, p ∈ (gT ++ g1).flatten := fun p hp => by rw [List.flatten_append]; exact List.mem_append_left _ hp
    have in1 : ∀ p ∈ g1.flatten, p ∈ (gT ++ g1).flatten := fun p hp => by rw [List.flatten_append]; exact List.mem_append_right _ hp
    refine ⟨F2, gT ++ backF bs fi g1, sFF2, fun x u e => ?_, fun x u h1 h2 => ckp x u h1 fun z => h2 (restF_sub z), clv, fun x u h1 h2 => ?_, fun p hp => (pr.ow p hp).2, ?_, ?_, fun p hp => ?_⟩
    · have e' : (if x ∈ lentF bs fi then none else F' x) = some u := e
      by_cases hx : x ∈ lentF bs fi
      · rw [if_pos hx] at e'; cases e'
      · rw [if_neg hx] at e'; exact c.fh x u e'
    · show (if x ∈ lentF bs fi then none else F' x) = none
      by_cases hx : x ∈ lentF bs fi
      · rw [if_pos hx]
      · rw [if_neg hx]
        exact cnc x u (by show (if x ∈ lentF bs fi then H x else F x) = none; rw [if_neg hx]; exact h1) h2
    · exact Sl.append (slT hT (fun p hp => hio p (inT p hp)) sT) (bck_sl b hl hl' pr.sl s1 sFF2 cut hH hio1)
    · rw [List.flatten_append]
      refine List.nodup_append.mpr ⟨n1, backF_nd pr.nd n2 (fun p hp z => notin p hp (in1 p z)), fun x hx y hy e => ?_⟩
      subst e
      rcases backF_sub hy with z | z
      · exact notin x z (inT x hx)
      · exact n3 x hx x z rfl
    · have key : p ∈ lentF bs fi ∨ p ∈ (gT ++ g1).flatten := by
        rw [List.flatten_append] at hp
        rcases List.mem_append.mp hp with hp | hp
        · exact .inr (inT p hp)
        · exact (backF_sub hp).imp id (in1 p)
      rcases key with z | z
      · obtain ⟨o, ho, _⟩ := lentSome p z
        refine ⟨by show (if p ∈ lentF bs fi then none else F' p) = none; rw [if_pos z], ?_, .inl (lentF_sub z)⟩
        rw [hH p z]; exact ⟨o, ho⟩
      · obtain ⟨a1, a2, a3⟩ := cow p z
        refine ⟨by show (if p ∈ lentF bs fi then none else F' p) = none; rw [if_neg fun q => notin p q z]; exact a1, a2, ?_⟩
        exact a3.imp restF_sub id
  have hio0 : ∀ p, p ∈ (restF bs fi).flatten → H p ≠ none := fun p hp e => by
    obtain ⟨o, ho⟩ := (pr.ow p (restF_sub hp)).2
    rw [e] at ho; cases ho
  refine ht ⟨F1, H, (restF bs fi).flatten⟩ hio0 H σ [] D ⟨by rw [lb]; exact hl, pr1.core⟩ ?_ ?_ (fun _ _ _ z => z.elim) (fun _ _ _ z => z.elim)
  · rintro ρ1 H' σ' ⟨ρ2, b, hn⟩ st'
    refine k1 ρ2 H' σ' hn ⟨by rw [← bl b]; exact st'.len, ?_⟩
    have c := k H' _ (back (T0 := []) (fun e he => by cases he) b st'.len st'.core)
    exact c.perm List.perm_append_comm
  · rintro R ρ1 v H' σ' ⟨he, ρ2, b, hn⟩ st'
    refine k2 R ρ2 v H' σ' hn ⟨by rw [← bl b]; exact st'.len, ?_⟩
    have c := k H' _ (back (T0 := [(some v, R)]) (fun e h => by rw [List.mem_singleton.mp h]; exact he) b st'.len st'.core)
    refine c.perm ?_
    show ((some v, R) :: (σ'.zip ρ2 ++ τ)).Perm ((some v, R) :: (τ ++ σ'.zip ρ2))
    exact List.perm_append_comm.cons _
theorem brw_ins {C p : Addr} {ds : List (Str × Dt)} : Brw (own (.ref p) (oIns C) ds) (idt (.ref p) (tIns C) ds) where
  lend := fun ⟨h1, p', dx, fs, h2, h3, h4, h5⟩ m m2 h => ⟨rfl, h1, p', dx, fs, h2, h p' (by rw [h3]; exact List.mem_cons_self) _ h4, fsR_mono m h5⟩
  zo := fun ⟨h1, p', dx, fs, h2, h3, h4, h5⟩ q hq => by
    rw [h3] at hq
    rw [List.mem_singleton.mp hq]
    exact ⟨_, h4, .inl ⟨C, dx, fs, rfl⟩⟩
  val := fun ⟨h1, h2⟩ ⟨_, h3, _⟩ m n => ⟨h3, OTy.stab _ h2 m n⟩
end
end Sw
/-! text Sw15 -/
set_option maxHeartbeats 4000000
/-! Sw15: list(o), o's own __iter__ gives iter(a list), its own __len__ is asked. -/
namespace Sw
open PySem PySem.Spec PyProof.Rows L2 ItX
structure ItL (K : PySem.W.Frag) (C fi fl : Addr) : Prop where
  it : PySem.W.findIn K (.ref C) "__iter__" = some (some (.ref fi))
  itF : PySem.W.isFn K (.ref fi) = true
  ln : PySem.W.findIn K (.ref C) "__len__" = some (some (.ref fl))
  lnF : PySem.W.isFn K (.ref fl) = true
def rLs (K : PySem.W.Frag) (C : Addr) (spI spL : Sp) : List V → Hp → VK → Prop := fun xs H Q => ∃ a dx fs, xs = [.ref a] ∧ H a = some (.ins C dx fs) ∧ ∀ q, H q = none →
  spI [.ref a] (upd H q (.lst [])) (fun v H1 => ∃ it l, v = .ref it ∧ H1 it = some (ItO l it 0) ∧ H1 q = some (.lst []) ∧ (∃ dx fs, H1 a = some (.ins C dx fs)) ∧
    spL [.ref a] H1 (fun n H2 => ∃ (k : Int) (zs : List V), n = .int k ∧ 0 ≤ k ∧ k ≤ 1000000 ∧ H2 it = some (ItO l it 0) ∧ H2 q = some (.lst []) ∧ SqL K H2 l zs ∧ l ≠ q ∧ l ≠ it ∧ zs.length < sizeLine ∧ ∀ i, Q (.ref q) (upd (upd H2 it (ItE it i)) q (.lst zs))) E0) E0
section
variable {X : Cx} {pins : List (Addr × Obj)} {σ : L2.St} {A1 : Around} {n : Nat} {C fi fl a q l it : Addr} {spI spL : Sp}
theorem upd_swap {H : Hp} {a b : Addr} {o u : HO} (h : a ≠ b) : upd (upd H a o) b u = upd (upd H b u) a o := by
  funext x
  by_cases h1 : x = a
  · rw [h1, upd_same, upd_ne h, upd_same]
  · by_cases h2 : x = b
    · rw [h2, upd_same, upd_ne h.symm, upd_same]
    · rw [upd_ne h2, upd_ne h1, upd_ne h1, upd_ne h2]
theorem ls_loop {H : Hp} {zs : List V} {Rs : Result → Shared → Prop} (hd : A1.in1.handled = none) (hl : SqL X.K H l zs) (hlq : l ≠ q) (hli : l ≠ it) (hqi : q ≠ it) (hz : zs.length < sizeLine) (hdone : ∀ s i, Inv X pins σ (upd (upd H it (ItE it i)) q (.lst zs)) s → Rs (.ok (.ret .none)) s) :
    ∀ (m i : Nat) (s : Shared), i + m = zs.length → Inv X pins σ (upd (upd H it (ItO l it i)) q (.lst (zs.take i))) s → codeAny (model X.prog X.w) A1 (.builtin "list.extend.loop" ⟨[.ref q, .ref it, .none], []⟩) Rs s := by
  intro m
  have hq : ∀ o ys, SqL X.K (upd (upd H it o) q (.lst ys)) l zs := fun o ys => by
    rcases hl with (h | ⟨o', h⟩) | h
    · exact .inl (.inl (by rw [upd_ne hlq, upd_ne hli]; exact h))
    · exact .inl (.inr ⟨o', by rw [upd_ne hlq, upd_ne hli]; exact h⟩)
    · exact .inr h
  have step : ∀ {o o' : HO} {ys : List V}, upd (upd (upd H it o) q (.lst ys)) it o' = upd (upd H it o') q (.lst ys) := fun {o o' ys} => by
    rw [upd_swap hqi, upd_upd]
  have look : ∀ {o : HO} {ys : List V}, (upd (upd H it o) q (.lst ys)) it = some o := fun {o ys} => by rw [upd_ne hqi.symm, upd_same]
  induction m with
  | zero =>
    intro i s hi I
    have e : i = zs.length := by omega
    subst e
    rw [List.take_length] at I
    refine codeAny_builtin PySem.F.entry_extend_loop ?_
    rw [Around.under_plainId PySem.F.plain_extend_loop _]
    show wpAny _ A1.in1 (pyNext (.ref it) >>= _) _ _ s
    obtain ⟨its, rv, p, _⟩ := I.list (hq _ _)
    have hlen := rv.length
    have gi := itO_get I look
    have hT : s.TypeIs (.ref it) "list_iterator" := ⟨_, gi, rfl⟩
    refine wpAny_bind ?_
    unfold pyNext
    refine wpAny_bind (wpAny_attempt (wpAny_callSpecial?_slot (name := Str.ofString "__next__") hT slot_listiter_next
      (wpAny_call_entry slot_listiter_next hT entry_listiter_next (GNX.next_end (A := A1.in1) hd gi p.isList (by simp; omega) fun h1 h' e vs e1 sb k ne he hv => ?_) (args_listiter_next _))))
    refine wpAny_bind (wpAny_isInstance (T := "StopIteration") (b := true) ⟨_, he, rfl⟩ isSubtype_stop ?_)
    refine wpAny_pure (wpAny_pure ?_)
    have mu : Mut ((upd (upd H it (ItO l it zs.length)) q (.lst zs)) it) := by rw [look]; exact True.intro
    have I2 := I.write (x := it) (e := it) (o := ItE it zs.length) (t' := s.toks) mu (.inl rfl) (fun b o nb z => (sb.2 b nb).trans z) ⟨_, e1⟩ (itE_ok e1)
    rw [step] at I2
    exact hdone _ _ (I2.kept (t' := s.toks) k)
  | succ m ih =>
    intro i s hi I
    have hlt : i < zs.length := by omega
    refine codeAny_builtin PySem.F.entry_extend_loop ?_
    rw [Around.under_plainId PySem.F.plain_extend_loop _]
    show wpAny _ A1.in1 (pyNext (.ref it) >>= _) _ _ s
    obtain ⟨its, rv, p, _⟩ := I.list (hq _ _)
    obtain ⟨u, hu, ru⟩ := rv.get (List.getElem?_eq_getElem hlt)
    have gi := itO_get I look
    have hT : s.TypeIs (.ref it) "list_iterator" := ⟨_, gi, rfl⟩
    refine wpAny_bind ?_
    unfold pyNext
    refine wpAny_bind (wpAny_attempt (wpAny_callSpecial?_slot (name := Str.ofString "__next__") hT slot_listiter_next
      (wpAny_call_entry slot_listiter_next hT entry_listiter_next ?_ (args_listiter_next _))))
    refine wpAny_mono (GNX.next_item (Q := fun v s' => v = u ∧ Inv X pins σ (upd (upd H it (ItO l it (i + 1))) q (.lst (zs.take i))) s') gi p.isList (x := u) (by rw [List.getElem?_toArray]; exact hu) fun h' e' sb => ⟨rfl, ?_⟩) (fun fin s' z => ?_) fun _ _ y => y
    · have mu : Mut ((upd (upd H it (ItO l it i)) q (.lst (zs.take i))) it) := by rw [look]; exact True.intro
      have I2 := I.write (x := it) (e := it) (o := ItO l it (i + 1)) (t' := s.toks) mu (.inl rfl) (fun b o nb z => (sb.2 b nb).trans z) ⟨_, e'⟩ (itO_ok e')
      rw [step] at I2
      exact I2
    · obtain ⟨v, e, ev, I1⟩ := z
      subst ev
      refine ⟨v, e, wpAny_pure ?_⟩
      show wpAny _ A1.in1 (updateSeq q (·.push v) >>= _) _ _ _
      obtain ⟨z, its2, k, r2, hl2, e⟩ := I1.lstM upd_same
      have hln : its2.length ≤ i := by rw [← r2.length, List.length_take]; omega
      have e1 : zs.take (i + 1) = zs.take i ++ [zs[i]] := List.take_succ_eq_append_getElem hlt
      have I2 := I1.lset (f := (·.push v)) (its' := its2 ++ [v]) (ys := zs.take (i + 1)) (t' := s'.toks) upd_same e (by simp) (by rw [e1]; exact r2.append (.cons ru .nil)) (by rw [List.length_take]; omega)
      rw [upd_upd] at I2
      exact wpAny_bind (wpAny_updateSeq e rfl (wpAny_pure ⟨plainId_quiet PySem.F.plain_extend_loop _, ih (i + 1) _ (by omega) I2⟩) (by rw [List.size_toArray]; omega) (by show (its2.toArray.push v).size ≤ sizeLine + 1; rw [Array.size_push, List.size_toArray]; omega))
/-- a run of a def of ours amid a built-in -/
theorem run_sub {H : Hp} {s : Shared} {sp : Sp} {f : Addr} {Q : VK} {us : List Value} {vs : List V} {E : Value → Shared → Prop} (sb : Sub X n A1) (F : FnR X.prog X.w X.K X.mg X.base CX0 n f sp) (I : Inv X pins σ H s) (r : Vals vs us) (h : sp vs H Q E0) :
    wpAny (model X.prog X.w) A1 (call (.ref f) us) (EP X pins σ Q) E s := by
  have e0 : Env0 X.prog X.w X.K X.mg X.base A1 X.stack s H := by
    have e := I.env0
    exact ⟨by rw [sb.fr]; exact e.frames, e.mod, e.bs, e.bsz, e.funs, e.frf, e.hok, e.bare⟩
  refine wpAny_call (codeAny_mono (F A1 X.stack s H us vs Q E0 sb.room e0 r h) fun r s' hq => ?_)
  cases r with
  | error er => exact False.elim hq
  | ok fl =>
    cases fl with
    | ret u =>
      exact I.after hq
    | next => exact False.elim hq
    | brk => exact False.elim hq
    | cont => exact False.elim hq
theorem ls_hint {H : Hp} {s : Shared} {Q : Bool → Shared → Prop} {E : Value → Shared → Prop} {dx : Addr} {fs : List (Str × V)} (sb : Sub X (n + 1) A1) (hc : ItL X.K C fi fl) (FL : FnR X.prog X.w X.K X.mg X.base CX0 n fl spL) (I : Inv X pins σ H s) (ha : H a = some (.ins C dx fs))
    (h : spL [.ref a] H (fun v H2 => ∃ k : Int, v = .int k ∧ 0 ≤ k ∧ k ≤ 1000000 ∧ ∀ s' b, Inv X pins σ H2 s' → Q b s') E0) : wpAny (model X.prog X.w) A1 (Builtin.List.listLengthHint (.ref a)) Q E s := by
  obtain ⟨mA, J, _⟩ := ins_get I.hok ha
  obtain ⟨od, J, _⟩ := J.look
  obtain ⟨m, hF⟩ := I.fr
  unfold Builtin.List.listLengthHint
  refine wpAny_bind (wpAny_bind (J.type.here ((PySem.W.looks_findIn I.kIn hc.ln).here ?_)))
  refine PySem.W.KFB.if_not rfl ?_
  rw [if_pos (show (some (Value.ref fl)).isSome = true from rfl)]
  show wpAny _ _ (rule "list.length-hint.len" >>= fun _ => (call (Value.builtin "len") [Value.ref a]).attempt >>= _) _ _ _
  refine wpAny_bind (wpAny_rule ?_)
  refine wpAny_bind (wpAny_attempt (PySem.W.len_K hF I.ok.mod.kin J hc.ln hc.lnF (wpAny_mono (run_sub (us := [.ref a]) (vs := [.ref a]) sb.in1 FL I (.cons rfl .nil) h) (fun u s' z => ?_) fun _ _ y => y)))
  obtain ⟨v, H', I', rv, k, e, k0, k1, q⟩ := z
  subst e
  obtain ⟨t, eu⟩ := (show ∃ t, u = Value.int k t from rv)
  subst eu
  refine ⟨⟨k0, by omega⟩, ?_⟩
  refine wpAny_bind (m := asInt? _) (wpAny_pure ?_)
  show wpAny _ _ (if Builtin.List.listTooLong k.toNat = true then _ else pure (k != 0)) _ _ _
  rw [if_neg (by unfold Builtin.List.listTooLong; simp [sizeLine_eq]; omega)]
  exact wpAny_pure (q _ _ (I'.tok _))
theorem call_listO (imp_q : ∀ {vs : List V} {H : Hp} {Q Q' : VK}, spL vs H Q E0 → (∀ v H', Q v H' → Q' v H') → spL vs H Q' E0) (hc : ItL X.K C fi fl) (FI : FnR X.prog X.w X.K X.mg X.base CX0 n fi spI) (FL : FnR X.prog X.w X.K X.mg X.base CX0 n fl spL) (hr : Room (n + 3) X.A) : CallR X (.type "list") (rLs X.K C spI spL) := by
  intro pins s σ H xs us Q I rv h
  obtain ⟨a, dx, fs, rfl, ha, hq⟩ := h
  obtain ⟨u, rfl, ru⟩ := rv.one
  cases ru
  have sb : Sub X (n + 1) X.A.in1.in1 := (Sub.in1 (Sub.in1 (⟨hr, rfl⟩ : Sub X (n + 3) X.A)))
  refine callType_codes (Q₁ := fun obj s₁ => obj = .ref s.heap.objs.size ∧ s₁ = { s with heap := s.heap.push { cls := .type "list", data := .seq #[] } }) PySem.F.called_list (PySem.F.typeCall_list_1 _) PySem.F.entry_list_init
    (code_list_new _ ⟨rfl, rfl⟩) fun obj s₁ h₁ => ?_
  obtain ⟨rfl, rfl⟩ := h₁
  have hS : (s.heap.push { cls := .type "list", data := .seq #[] }).get? s.heap.objs.size = some { cls := .type "list", data := .seq #[] } := Heap.get?_push_size _ rfl
  refine ⟨⟨_, hS, rfl⟩, PySem.F.args_list_init_2 _ _, ?_⟩
  have fr : H s.heap.objs.size = none := I.hok.fresh (Nat.le_refl _)
  have hspI := hq _ fr
  have I1 : Inv X pins σ (upd H s.heap.objs.size (.lst [])) { s with heap := s.heap.push { cls := .type "list", data := .seq #[] } } := I.lnew (its := []) (t' := s.toks) .nil (Nat.zero_le _)
  show wpAny _ _ (do let old ← Builtin.List.listItems (.ref s.heap.objs.size); Builtin.List.listUpdate (.ref s.heap.objs.size) (fun _ => #[]); letGo old.toList.reverse; Builtin.List.listExtendWith (.ref s.heap.objs.size) (.ref a) .none) _ _ _
  refine wpAny_bind ?_
  unfold Builtin.List.listItems
  refine wpAny_bind (wpAny_seqItems hS rfl (wpAny_pure ?_))
  show wpAny _ _ (updateSeq s.heap.objs.size (fun _ => #[]) >>= fun _ => letGo (#[] : Array Value).toList.reverse >>= fun _ => Builtin.List.listExtendWith (.ref s.heap.objs.size) (.ref a) .none) _ _ _
  refine wpAny_bind (wpAny_updateSeq hS rfl ?_)
  have I2 := I1.lset (f := fun _ => #[]) (its := []) (its' := []) (ys := []) (t' := s.toks) upd_same hS rfl .nil (Nat.zero_le _)
  rw [upd_upd] at I2
  refine wpAny_bind (wpAny_letGo ?_)
  have ha2 : upd H s.heap.objs.size (.lst []) a = some (.ins C dx fs) := by rw [upd_ne (ne_of_none ha fr)]; exact ha
  generalize hqd : s.heap.objs.size = q at *
  have hne : q ≠ a := fun z => by rw [z, upd_same] at ha2; cases ha2
  obtain ⟨mA, J, _⟩ := ins_get I2.hok ha2
  obtain ⟨od, J, _⟩ := J.look
  obtain ⟨m0, hF⟩ := I2.fr
  unfold Builtin.List.listExtendWith
  refine wpAny_bind (J.type.here ?_)
  have h1 : Builtin.List.listSameRef (.ref q) (.ref a) = false := by simp [Builtin.List.listSameRef, hne]
  have h2 : (Value.ref C == Value.type "list") = false := rfl
  have h3 : (Value.ref C == Value.type "tuple") = false := rfl
  simp only [h1, h2, h3, Bool.or_false, Bool.false_eq_true, if_false]
  refine wpAny_bind (PySem.W.owit_iter hF I2.ok.mod.kin J hc.it hc.itF (wpAny_mono (run_sub (us := [.ref a]) (vs := [.ref a]) (sb.mono (Nat.le_succ n)) FI I2 (.cons rfl .nil) hspI) (fun u s' z => ?_) fun _ _ y => y))
  obtain ⟨v, H1, I3, rv3, it, l, e, hit, hq1, ⟨dx1, fs1, ha3⟩, hspL⟩ := z
  subst e
  obtain rfl : u = Value.ref it := rv3
  unfold PySem.W.OwitIt
  have gi := itO_get I3 hit
  refine wpAny_specialOf (T := "list_iterator") ⟨_, gi, rfl⟩ slot_listiter_next.lookup ?_
  refine wpAny_bind (wpAny_holding (ls_hint sb hc FL I3 ha3 (imp_q hspL fun v H2 z => ?_)))
  obtain ⟨k, zs, e, k0, k1, hit2, hq2, hl2, n1, n2, hz, hQ⟩ := z
  refine ⟨k, e, k0, k1, fun s2 b I4 => ?_⟩
  have fin : ∀ s3, Inv X pins σ H2 s3 → codeAny (model X.prog X.w) X.A.in1 (.builtin "list.extend.loop" ⟨[.ref q, .ref it, .none], []⟩) (wants (fun r s₂ => r = .none ∧ EP X pins σ Q (.ref q) s₂) X.xe) s3 := fun s3 I5 => by
    have hqi : q ≠ it := fun z => by rw [← z, hq2] at hit2; cases hit2
    have e0 : upd (upd H2 it (ItO l it 0)) q (.lst (zs.take 0)) = H2 := by
      funext b
      by_cases hb : b = q
      · rw [hb, upd_same, hq2]; rfl
      · rw [upd_ne hb]
        by_cases hb2 : b = it
        · rw [hb2, upd_same, hit2]
        · rw [upd_ne hb2]
    exact ls_loop (H := H2) (zs := zs) (l := l) (A1 := X.A.in1) hr.hd hl2 n1 n2 hqi hz (fun s4 i I6 => ⟨rfl, .ref q, _, I6, rfl, hQ i⟩) zs.length 0 s3 (Nat.zero_add _) (by rw [e0]; exact I5)
  refine wpAny_ite_split (fun _ => ?_) (fun _ => wpAny_pure ⟨plainId_quiet PySem.F.plain_extend_loop _, fin s2 I4⟩)
  obtain ⟨z, its, k, r3, hl3, e3⟩ := I4.lstM hq2
  cases r3
  refine wpAny_bind (wpAny_rule ?_)
  refine wpAny_bind ?_
  show wpAny _ _ (updateSeq q (·.push .none) >>= fun _ => updateSeq q (·.pop)) _ _ _
  refine wpAny_bind (wpAny_updateSeq e3 rfl ?_)
  have I5 := I4.lset (f := (·.push Value.none)) (its' := [Value.none]) (ys := [.non]) (t' := s2.toks) hq2 e3 (by simp) (.cons rfl .nil) (by rw [List.length_singleton, sizeLine_eq]; decide)
  obtain ⟨z4, its4, k4, r4, hl4, e4⟩ := I5.lstM upd_same
  obtain ⟨u4, rfl, ru4⟩ := r4.one
  refine wpAny_updateSeq e4 rfl ?_ (by show 1 ≤ sizeLine; rw [sizeLine_eq]; decide) (by show 0 ≤ sizeLine + 1; exact Nat.zero_le _)
  refine wpAny_pure ⟨plainId_quiet PySem.F.plain_extend_loop _, fin _ ?_⟩
  have I6 := I5.lset (f := (·.pop)) (its := [u4]) (its' := []) (ys := []) (t' := s2.toks) upd_same e4 (by rfl) .nil (Nat.zero_le _)
  rw [upd_upd] at I6
  have hH : upd H2 q (.lst []) = H2 := by
    funext b
    by_cases hb : b = q
    · rw [hb, upd_same, hq2]
    · rw [upd_ne hb]
  rw [hH] at I6
  exact I6
end
end Sw
/-! text Sw16 -/
set_option maxHeartbeats 4000000
/-! Sw16: own classes over the state. -/
namespace Sw
open PySem L2
variable {α β γ δ κ : Type}
/-- the first argument is changed and handed back -/
def spI (pre : A → Prop) (O : OTy κ) (s0 : A → κ) (ins : A → List SV) (s1 : A → κ) : Sp := fun vs H Q _ => ∃ (a : A) (F : Hp) (fi : List (List Addr)) (x : V) (ws : List V), pre a ∧ vs = x :: ws ∧ ws.length = (ins a).length ∧
  Pre F H ((some x, own x O (s0 a)) :: ens ws (ins a)) fi ∧ ∀ H', Core ⟨F, H, fi.flatten⟩ H' [(some x, own x O (s1 a))] → Q x H'
def spStar (n : Nat) (sp : Sp) : Sp := fun vs H Q E => ∃ ws rest, vs = ws ++ rest ∧ ws.length = n ∧ rest.length ≤ sizeLine ∧ ∀ p, H p = Option.none → sp (ws ++ [V.ref p]) (upd H p (.tup rest)) Q E
/-- an iterator over a list that stands still, not begun -/
def itS (T : Ty α) (xs : List α) : SV where
  ok io F H v fp := ∃ it l vs, v = some (.ref it) ∧ fp = [it] ∧ H it = some (ItO l it 0) ∧ it ∉ io ∧ F l = some (.lst vs) ∧ Paired (T.rep F) vs xs
  stab := fun ⟨it, l, vs, h1, h2, h3, h4, h5, h6⟩ m n => ⟨it, l, vs, h1, h2, by rw [n it (by rw [h2]; exact List.mem_cons_self)]; exact h3, h4, m _ _ h5, L2.Paired.mapP h6 fun _ _ z => T.mono m z⟩
  ioch := fun ⟨it, l, vs, h1, h2, h3, h4, h5, h6⟩ m => ⟨it, l, vs, h1, h2, h3, m it (by rw [h2]; exact List.mem_cons_self) h4, h5, h6⟩
section
variable {B : Bas} {H H' : Hp} {σ : L2.St} {ρ ρ1 ρ2 ρ3 ρ' : List SV} {τ : List En} {L L1 L2' : List En} {R S1 S2 S : SV} {ta tb te tl td tk tv : TE} {tt tu : TT} {as : TA} {a : α} {b : β} {c : γ} {T : Ty α} {U : Ty β} {W : Ty γ} {i j : Nat} {K : PySem.W.Frag} {N : Kn} {A : Type}
theorem fr_lc {s : SV} {r : List SV} (h : Fr s) (hr : ∀ s ∈ r, Fr s) : ∀ s' ∈ s :: r, Fr s' := fun s' hs => by
  rcases List.mem_cons.mp hs with rfl | hs
  · exact h
  · exact hr _ hs
theorem fr_l0 : ∀ s ∈ ([] : List SV), Fr s := fun _ h => nomatch h
theorem fr_l1 : ∀ s ∈ [dat T a], Fr s := fr_lc fr_dat fr_l0
theorem fr_l2 : ∀ s ∈ [dat T a, dat U b], Fr s := fr_lc fr_dat fr_l1
theorem St.callF {pre : A → Prop} {ins : A → List SV} {res : A → SV} {vs : List V} {Q : VK} {E : XK} (a : A) (st : St B H σ ρ (ens vs (ins a) ++ τ)) (hl : vs.length = (ins a).length) (hp : pre a) (hf : ∀ s ∈ ins a, Fr s) (q : ∀ v H', St B H' σ ρ ((some v, res a) :: τ) → Q v H') : spF pre ins res vs H Q E := by
  have c := st.core
  rw [List.append_assoc] at c
  obtain ⟨F, fi, p, k⟩ := c.frame (fr_ens hf)
  exact ⟨a, F, fi, hp, hl, p, fun v H' d => q v H' ⟨st.len, k H' _ d⟩⟩
theorem own_frame {O : OTy κ} {x : V} {k0 k1 : κ} {Rs : List SV} {ws : List V} (st : St B H σ ρ (ens ws Rs ++ τ)) (h1 : ρ[i]? = some (own x O k0)) (hf : ∀ s ∈ Rs, Fr s) :
    ∃ F fi, Pre F H ((some x, own x O k0) :: ens ws Rs) fi ∧ ∀ H' Lo, Core ⟨F, H, fi.flatten⟩ H' (Lo ++ [(some x, own x O k1)]) → St B H' σ (ρ.set i (own x O k1)) (Lo ++ τ) := by
  obtain ⟨v', hv, l, p1, p2, _⟩ := zip_perm st.len h1
  have pp : (ens ws Rs ++ τ ++ σ.zip ρ).Perm (((v', own x O k0) :: ens ws Rs) ++ (τ ++ l)) := by
    rw [List.append_assoc]
    exact (List.Perm.append_left _ (perm_top τ p1)).trans List.perm_middle
  have c2 := st.core.perm pp
  obtain ⟨_, _, _, e', _⟩ := (show Core B H ((v', own x O k0) :: (ens ws Rs ++ (τ ++ l))) from c2).o1
  subst e'
  obtain ⟨F, fi, p, k⟩ := c2.frame (fun e he => by
    rcases List.mem_cons.mp he with rfl | he
    · exact fr_own
    · exact fr_ens hf e he)
  refine ⟨F, fi, p, fun H' Lo d => ⟨by rw [List.length_set]; exact st.len, ?_⟩⟩
  have c3 := k H' _ d
  have p3 : (Lo ++ τ ++ σ.zip (ρ.set i (own x O k1))).Perm ((Lo ++ [(some x, own x O k1)]) ++ (τ ++ l)) := by
    rw [List.append_assoc, List.append_assoc]
    exact List.Perm.append_left _ (perm_top τ (p2 (own x O k1)))
  exact c3.perm p3.symm
theorem St.callM {pre : A → Prop} {O : OTy κ} {s0 s1 : A → κ} {ins : A → List SV} {res : A → SV} {x : V} {ws : List V} {Q : VK} {E : XK} (a : A) (st : St B H σ ρ (ens ws (ins a) ++ τ)) (hl : ws.length = (ins a).length) (h1 : ρ[i]? = some (own x O (s0 a))) (hp : pre a) (hf : ∀ s ∈ ins a, Fr s)
    (q : ∀ v H', St B H' σ (ρ.set i (own x O (s1 a))) ((some v, res a) :: τ) → Q v H') : spM pre O s0 ins s1 res (x :: ws) H Q E := by
  obtain ⟨F, fi, p, k⟩ := own_frame (k1 := s1 a) st h1 hf
  exact ⟨a, F, fi, x, ws, hp, rfl, hl, p, fun v H' d => q v H' (k H' [(some v, res a)] d)⟩
theorem St.callI {pre : A → Prop} {O : OTy κ} {s0 s1 : A → κ} {ins : A → List SV} {x : V} {ws : List V} {Q : VK} {E : XK} (a : A) (st : St B H σ ρ (ens ws (ins a) ++ τ)) (hl : ws.length = (ins a).length) (h1 : ρ[i]? = some (own x O (s0 a))) (hp : pre a) (hf : ∀ s ∈ ins a, Fr s)
    (q : ∀ H', St B H' σ (ρ.set i (own x O (s1 a))) τ → Q x H') : spI pre O s0 ins s1 (x :: ws) H Q E := by
  obtain ⟨F, fi, p, k⟩ := own_frame (k1 := s1 a) st h1 hf
  exact ⟨a, F, fi, x, ws, hp, rfl, hl, p, fun H' d => q H' (k H' [] d)⟩
theorem body_I {pre : A → Prop} {O : OTy κ} {s0 s1 : A → κ} {ins : A → List SV} {t : TS} {N : List Str} {vs : List V} {H : Hp} {Q : VK} {E : XK} (hs : spI pre O s0 ins s1 vs H Q E)
    (hb : ∀ (a : A) (B : Bas) (x : V), pre a → ExS B (own x O (s0 a) :: (ins a ++ List.replicate (N.length - ((ins a).length + 1)) any)) t { nx := fun ρ' => False, rt := fun R ρ' => R = isv x ∧ ρ'[0]? = some (own x O (s1 a)) }) :
    t { nx := fun _ H' => Q .non H', rt := Q } (L2.start N vs) H := by
  obtain ⟨a, F, fi, x, ws, hp, rfl, hl, p, k⟩ := hs
  have st := core_start (vs := x :: ws) (Rs := own x O (s0 a) :: ins a) p.core (by simp [hl]) (N.length - ((ins a).length + 1))
  have e : L2.start N (x :: ws) = (x :: ws).map some ++ List.replicate (N.length - ((ins a).length + 1)) none := by unfold L2.start; rw [List.length_cons, hl]
  rw [e]
  refine hb a ⟨F, H, fi.flatten⟩ x hp H _ [] _ st (fun ρ' H' σ' e' st' => e'.elim) (fun R ρ' v H' σ' e' st' => ?_) (fun _ _ _ z => z.elim) (fun _ _ _ z => z.elim)
  obtain ⟨rfl, h0⟩ := e'
  have ev := st'.core.i1
  cases ev
  obtain ⟨v', _, l, p1, _, _⟩ := zip_perm st'.len h0
  have c := (show Core ⟨F, H, fi.flatten⟩ H' ([] ++ σ'.zip ρ') from st'.core.cut).perm (perm_top [] p1)
  obtain ⟨_, _, _, e1, _⟩ := c.o1
  subst e1
  exact k H' (show Core ⟨F, H, fi.flatten⟩ H' ([(some x, own x O (s1 a))] ++ l) from c).left
theorem ins_at {C : Addr} {ds : List (Str × Dt)} {v : Option V} (c : Core B H ((v, dat (tIns C) ds) :: L)) : ∃ p dx fs, v = some (.ref p) ∧ H p = some (.ins C dx fs) ∧ ∀ m, ds.lookup m = none → fs.lookup m = none := by
  obtain ⟨F, x, m, e, p, dx, fs, e2, hp, hr⟩ := c.d1
  refine ⟨p, dx, fs, by rw [e, e2], m _ _ hp, fun n hn => ?_⟩
  rcases fs_lookup (f := n) hr with ⟨h, _⟩ | ⟨_, d, _, h2, _⟩
  · exact h
  · rw [hn] at h2; cases h2
theorem ins_own {C : Addr} {ds : List (Str × Dt)} {x : V} (st : St B H σ ρ τ) (h : ρ[i]? = some (own x (oIns C) ds)) : ∃ p dx fs, x = .ref p ∧ H p = some (.ins C dx fs) ∧ ∀ m, ds.lookup m = none → fs.lookup m = none := by
  obtain ⟨F, fs, fp, c, p, dx, gs, h1, h2, h3, h4⟩ := own_at st.len h st.core
  refine ⟨p, dx, gs, h1, h3, fun n hn => ?_⟩
  rcases fs_lookup (f := n) h4 with ⟨h, _⟩ | ⟨_, d, _, h2, _⟩
  · exact h
  · rw [hn] at h2; cases h2
/-- a ∘ b, both of the class, standing still -/
theorem ev_own2 {C : Addr} {pre : A → Prop} {ins : A → List SV} {res : A → SV} {d1 d2 : List (Str × Dt)} (k : A) (hi : ins k = [dat (tIns C) d1, dat (tIns C) d2]) (ha : EvE B ρ ta (dat (tIns C) d1) ρ1) (hb : EvE B ρ1 tb (dat (tIns C) d2) ρ2) (hp : pre k) :
    EvE B ρ (tOp (rOwn2 C (spF pre ins res)) ta tb) (res k) ρ2 := fun H σ τ Q st q =>
  ha H σ τ _ st fun x H1 st1 => hb H1 σ _ _ st1 fun y H2 st2 => by
    obtain ⟨p, dx, fs, e1, h1, _⟩ := ins_at st2.core
    obtain ⟨p2, dx2, fs2, e2, h2, _⟩ := ins_at st2.core.cut
    cases e1; cases e2
    refine ⟨p2, p, dx2, dx, fs2, fs, rfl, rfl, h2, h1, St.callF (τ := τ) k (by rw [hi]; exact ⟨st2.len, st2.core.swap⟩) (by rw [hi]; rfl) hp (by rw [hi]; exact fr_l2) fun v H' st' => q v H' st'⟩
/-- o.m(..), o standing still -/
theorem ev_ml {C : Addr} {m : Str} {pre : A → Prop} {ins : A → List SV} {res : A → SV} {ds : List (Str × Dt)} {Rs : List SV} (k : A) (hi : ins k = dat (tIns C) ds :: Rs) (ht : EvE B ρ te (dat (tIns C) ds) ρ1) (ha : EvA B ρ1 as Rs ρ2) (hm : ds.lookup m = none) (hp : pre k) (hf : ∀ s ∈ Rs, Fr s) :
    EvE B ρ (tMt C m (spF pre ins res) te as) (res k) ρ2 := fun H σ τ Q st q =>
  ht H σ τ _ st fun x H1 st1 => by
    obtain ⟨p, dx, fs, e1, h1, hn⟩ := ins_at st1.core
    cases e1
    refine ⟨p, dx, fs, rfl, h1, hn m hm, ha H1 σ _ _ st1 fun vs H2 hl st2 => ?_⟩
    refine St.callF (τ := τ) k (by rw [hi]; exact ⟨st2.len, st2.core.perm (by
      show (ens vs Rs ++ (some (V.ref p), dat (tIns C) ds) :: τ ++ σ.zip ρ2).Perm ((some (V.ref p), dat (tIns C) ds) :: ens vs Rs ++ τ ++ σ.zip ρ2)
      exact List.Perm.append_right _ List.perm_middle)⟩) (by rw [hi]; simp [hl]) hp (by rw [hi]; exact fr_lc fr_dat hf) fun v H' st' => q v H' st'
/-- o.m(..), o a name that owns -/
theorem ev_mlO {C : Addr} {m : Str} {pre : A → Prop} {s0 s1 : A → List (Str × Dt)} {ins : A → List SV} {res : A → SV} {x : V} {k0 : List (Str × Dt)} (k : A) (h0 : ρ[i]? = some (own x (oIns C) k0)) (hm : k0.lookup m = none) (ha : EvA B ρ as (ins k) ρ1) (h1 : ρ1[i]? = some (own x (oIns C) (s0 k))) (hp : pre k) (hf : ∀ s ∈ ins k, Fr s) :
    EvE B ρ (tMt C m (spM pre (oIns C) s0 ins s1 res) (tVar i) as) (res k) (ρ1.set i (own x (oIns C) (s1 k))) := fun H σ τ Q st q =>
  ev_varO h0 H σ τ _ st fun v H1 st1 => by
    have ex := st1.core.i1
    cases ex
    obtain ⟨p, dx, fs, e1, h2, hn⟩ := ins_own st1.cut h0
    subst e1
    refine ⟨p, dx, fs, rfl, h2, hn m hm, ha H1 σ _ _ st1.cut fun vs H2 hl st2 => ?_⟩
    exact St.callM k st2 hl h1 hp hf q
/-- e.f, f a property -/
theorem ev_pg {C : Addr} {pre : A → Prop} {ins : A → List SV} {res : A → SV} {ds : List (Str × Dt)} (k : A) (hi : ins k = [dat (tIns C) ds]) (ht : EvE B ρ te (dat (tIns C) ds) ρ1) (hp : pre k) : EvE B ρ (tProp C (spF pre ins res) [] E0 te) (res k) ρ1 := fun H σ τ Q st q =>
  ht H σ τ _ st fun x H1 st1 => by
    obtain ⟨p, dx, fs, e1, h1, hn⟩ := ins_at st1.core
    cases e1
    exact ⟨p, dx, fs, rfl, h1, St.callF (τ := τ) k (by rw [hi]; exact st1) (by rw [hi]; rfl) hp (by rw [hi]; exact fr_l1) fun v H' st' => q v H' st'⟩
/-- x.f = e through a property's setter, x a name that owns -/
theorem ex_pro {C : Addr} {pre : A → Prop} {s0 s1 : A → List (Str × Dt)} {ins : A → List SV} {res : A → SV} {x : V} {k0 : List (Str × Dt)} (k : A) (hi : ins k = [dat T a]) (hv : EvE B ρ tv (dat T a) ρ1) (h1 : ρ1[i]? = some (own x (oIns C) (s0 k))) (hp : pre k) (q : N.nx (ρ1.set i (own x (oIns C) (s1 k)))) :
    ExS B ρ (sPro C (spM pre (oIns C) s0 ins s1 res) (tVar i) tv) N := fun H σ τ D st k1 _ _ _ =>
  hv H σ τ _ st fun y H1 st1 => ev_varO h1 H1 σ _ _ st1 fun v H2 st2 => by
    have ex := st2.core.i1
    cases ex
    obtain ⟨p, dx, fs, e1, h2, hn⟩ := ins_own st2.cut h1
    subst e1
    exact ⟨p, dx, fs, rfl, h2, St.callM (τ := τ) k (by rw [hi]; exact st2.cut) (by rw [hi]; rfl) h1 hp (by rw [hi]; exact fr_l1) fun v H' st' => k1 _ H' σ q st'.cut⟩
/-- x op= e by an own rule, x a name that owns -/
theorem ex_ip {C : Addr} {pre : A → Prop} {s0 s1 : A → List (Str × Dt)} {ins : A → List SV} {x : V} {p : Addr} (k : A) (hi : ins k = [dat T a]) (h0 : ρ[i]? = some (own (.ref p) (oIns C) (s0 k))) (hv : EvE B ρ tv (dat T a) ρ) (hp : pre k) (q : N.nx (ρ.set i (own (.ref p) (oIns C) (s1 k)))) :
    ExS B ρ (tAug i tv (rIpO C (spI pre (oIns C) s0 ins s1))) N := fun H σ τ D st k1 _ _ _ => by
  obtain ⟨v, e, hm⟩ := mem_zip st.len h0
  obtain ⟨p', dx, fs, e1, h2, hn⟩ := ins_own st h0
  cases e1
  have ev : v = some (.ref p) := by
    obtain ⟨F, fs, c⟩ := st.core
    obtain ⟨fp, _, h2, _⟩ := Sl.mem c.sl (List.mem_append_right τ hm)
    exact h2
  refine ⟨.ref p, by rw [e, ev], hv H σ τ _ st fun y H1 st1 => ?_⟩
  obtain ⟨p', dx', fs', e1, h3, _⟩ := ins_own st1 h0
  cases e1
  refine ⟨p, dx', fs', rfl, h3, St.callI (τ := τ) k (by rw [hi]; exact st1) (by rw [hi]; rfl) h0 hp (by rw [hi]; exact fr_l1) fun H' st' => ?_⟩
  have es : σ.set i (some (.ref p)) = σ := by
    refine List.ext_getElem? fun j => ?_
    by_cases hj : i = j
    · subst hj
      rw [List.getElem?_set_self (by obtain ⟨hi', _⟩ := List.getElem?_eq_some_iff.mp e; exact hi'), e, ev]
    · rw [List.getElem?_set_ne hj]
  show D.nx (σ.set i (some (.ref p))) H'
  rw [es]
  exact k1 _ H' σ q st'
/-- x[k] = e by an own __setitem__, x a name that owns -/
theorem ex_setI {C : Addr} {pre : A → Prop} {s0 s1 : A → List (Str × Dt)} {ins : A → List SV} {res : A → SV} {x : V} (k : A) (hi : ins k = [dat U b, dat T a]) (hv : EvE B ρ tv (dat T a) ρ1) (hk : EvE B ρ1 tk (dat U b) ρ2) (h0 : ρ1[i]? = some (own x (oIns C) (s0 k))) (h1 : ρ2[i]? = some (own x (oIns C) (s0 k))) (hp : pre k)
    (q : N.nx (ρ2.set i (own x (oIns C) (s1 k)))) : ExS B ρ (tAsg tv (gSub (tVar i) tk (rSetO C (spM pre (oIns C) s0 ins s1 res)))) N := fun H σ τ D st k1 _ _ _ =>
  hv H σ τ _ st fun w H0 st0 => ev_varO h0 H0 σ _ _ st0 fun v H1 st1 => by
    have ex := st1.core.i1
    cases ex
    exact hk H1 σ _ _ st1.cut fun y H2 st2 => by
      obtain ⟨p, dx, fs, e1, h2, hn⟩ := ins_own st2 h1
      subst e1
      refine ⟨p, dx, fs, rfl, h2, St.callM (τ := τ) k (by rw [hi]; exact st2) (by rw [hi]; rfl) h1 hp (by rw [hi]; exact fr_l2) fun v H' st' => k1 _ H' σ q st'.cut⟩
/-! ### C(*xs) -/
theorem ens_add {F : Hp} : ∀ {vs : List V} {xs : List α}, (∀ F fs, CoreAt B H L F fs → Paired (T.rep F) vs xs) → Core B H L → Core B H (ens vs (xs.map (dat T)) ++ L) := by
  intro vs
  induction vs with
  | nil => intro xs _ c; exact c
  | cons v vs ih =>
    intro xs h c
    cases xs with
    | nil => exact c
    | cons x xs =>
      have c2 := ih (xs := xs) (fun F fs cc => by have := h F fs cc; cases this with | cons _ r => exact r) c
      obtain ⟨F, fs, cc⟩ := c2
      obtain ⟨f1, f2, rfl, s1, s2⟩ := Sl.split cc.sl
      have c3 : CoreAt B H L F f2 := by
        refine ⟨cc.fr, cc.fh, cc.kp, cc.lv, cc.nc, cc.il, s2, ?_, fun p hp => cc.ow p (by rw [List.flatten_append]; exact List.mem_append_right _ hp)⟩
        have := cc.nd
        rw [List.flatten_append] at this
        exact (List.nodup_append.mp this).2.1
      have hr := h F f2 c3
      cases hr with
      | cons hx _ => exact cc.add (e := (some v, dat T x)) ⟨rfl, v, rfl, hx⟩
theorem mk_star {C : Addr} {pre : A → Prop} {ins : A → List SV} {s1 : A → List (Str × Dt)} {xs : List α} {vs : List V} {Q : VK} (k : A) (hi : ins k = [dat (tTupL K T) xs]) (hp : pre k) (hz : xs.length ≤ sizeLine) (c : Core B H (ens vs (xs.map (dat T)) ++ L)) (hl : vs.length = xs.length)
    (q : ∀ v H', Core B H' ((some v, fre (oIns C) (s1 k)) :: L) → Q v H') : ∀ x dx, H x = none → H dx = none → dx ≠ x → spStar 1 (spM pre (oIns C) (fun _ => []) ins s1 (fun _ => dat tNon ())) (V.ref x :: vs) (upd (upd H dx (.own x)) x (.ins C dx [])) (fun v H2 => v = .non ∧ Q (.ref x) H2) E0 := by
  intro x dx hx hdx ne
  refine ⟨[V.ref x], vs, rfl, rfl, by rw [hl]; exact hz, fun p hpn => ?_⟩
  obtain ⟨F, fs, cc⟩ := c
  have c1 := cc.new (o := .own x) hdx
  have hx1 : upd H dx (.own x) x = none := by rw [upd_ne ne.symm]; exact hx
  have hio : x ∉ B.io := cc.noio hx
  have c2 : Core B (upd (upd H dx (.own x)) x (.ins C dx [])) ((some (.ref x), own (.ref x) (oIns C) []) :: (ens vs (xs.map (dat T)) ++ L)) :=
    Core.allocO (o := .ins C dx []) (s := own (.ref x) (oIns C) []) ⟨F, fs, c1⟩ hx1 fun F _ _ => ⟨rfl, x, dx, [], rfl, rfl, upd_same, .nil⟩
  have c3 := c2.alloc (o := .tup vs) (s := dat (tTupL K T) xs) hpn fun F ⟨fs, c'⟩ => ⟨rfl, .ref p, rfl, p, vs, rfl, .inl (.inl upd_same), by
    have m : Same F (upd F p (.tup vs)) := fun y u e => by rw [upd_ne (ne_of_none e (c'.Fnone hpn))]; exact e
    cases fs with
    | nil => exact c'.sl.elim
    | cons fp fs => exact L2.Paired.mapP (sl_pair hl c'.sl.2) fun _ _ z => T.mono m z⟩
  have c4 : Core B (upd (upd (upd H dx (.own x)) x (.ins C dx [])) p (.tup vs)) (((some (V.ref x), own (.ref x) (oIns C) []) :: ens [V.ref p] (ins k)) ++ (ens vs (xs.map (dat T)) ++ L)) := by
    rw [hi]
    exact c3.swap
  obtain ⟨F, fi, pr, kk⟩ := c4.frame (fun e he => by
    rcases List.mem_cons.mp he with rfl | he
    · exact fr_own
    · exact fr_ens (by rw [hi]; exact fr_l1) e he)
  refine ⟨k, F, fi, .ref x, [V.ref p], hp, rfl, by rw [hi]; rfl, pr, fun v H' d => ?_⟩
  have c5 : Core B H' ((some v, dat tNon ()) :: (some (.ref x), own (.ref x) (oIns C) (s1 k)) :: (ens vs (xs.map (dat T)) ++ L)) := kk H' _ d
  obtain ⟨_, w, _, e1, e2⟩ := c5.d1
  cases e1
  have c6 : Core B H' ((some (.ref x), own (.ref x) (oIns C) (s1 k)) :: L) := c5.cut.mid
  refine ⟨e2, q _ H' (c6.weak fun F fp _ ⟨h1, h2⟩ => .inl ⟨.ref x, rfl, h2, fun q hq => ?_⟩)⟩
  obtain ⟨p', _, _, h5, h6, _⟩ := h2
  cases h5
  rw [h6] at hq
  rw [List.mem_singleton.mp hq]
  exact hio
theorem fr_makeA {C : Addr} {pre : A → Prop} {ins : A → List SV} {s1 : A → List (Str × Dt)} {xs : List α} (k : A) (hi : ins k = [dat (tTupL K T) xs]) (h : EvA B ρ as (xs.map (dat T)) ρ1) (hp : pre k) (hz : xs.length ≤ sizeLine) :
    EvE B ρ (tMk C (spStar 1 (spM pre (oIns C) (fun _ => []) ins s1 (fun _ => dat tNon ()))) as) (fre (oIns C) (s1 k)) ρ1 := fun H σ τ Q st q =>
  h H σ τ _ st fun vs H1 hl st1 => mk_star (L := τ ++ σ.zip ρ1) k hi hp hz (by have c := st1.core; rw [List.append_assoc] at c; exact c) (by rw [hl, List.length_map]) fun v H' c => q v H' ⟨st1.len, c⟩
theorem fr_makeT {C : Addr} {pre : A → Prop} {ins : A → List SV} {s1 : A → List (Str × Dt)} {xs : List α} (k : A) (hi : ins k = [dat (tTupL K T) xs]) (h : EvE B ρ te (dat (tRow K T) xs) ρ1) (hp : pre k) (hz : xs.length ≤ sizeLine) :
    EvE B ρ (tMk C (spStar 1 (spM pre (oIns C) (fun _ => []) ins s1 (fun _ => dat tNon ()))) (tSt K te)) (fre (oIns C) (s1 k)) ρ1 := fun H σ τ Q st q =>
  h H σ τ _ st fun v H1 st1 => by
    obtain ⟨p, vs, rfl, hl, hq, st2⟩ := st1.row
    refine ⟨p, vs, rfl, .inr hq, mk_star (L := (some (.ref p), dat (tRowAt K T p vs) xs) :: (τ ++ σ.zip ρ1)) k hi hp hz (ens_add (F := H1) (fun F fs cc => ?_) st2.core) hl fun v H' c => q v H' ⟨st1.len, c.swap.cut⟩⟩
    obtain ⟨fp, _, _, x, e1, _, _, hr⟩ := Sl.mem (e := (some (.ref p), dat (tRowAt K T p vs) xs)) cc.sl List.mem_cons_self
    exact hr
end
end Sw
/-! text Sw17 -/
set_option maxHeartbeats 4000000
/-! Sw17: None or a thing, list(o), isinstance, dicts walked through, dict displays. -/
namespace Sw
open PySem L2
variable {α β γ δ κ : Type}
section
variable {B : Bas} {H H' : Hp} {σ : L2.St} {ρ ρ1 ρ2 ρ3 ρ' : List SV} {τ : List En} {L L1 L2' : List En} {R S1 S2 S : SV} {ta tb te tl td tk tv : TE} {tt tu : TT} {as : TA} {a : α} {b : β} {c : γ} {T : Ty α} {U : Ty β} {W : Ty γ} {i j m : Nat} {K : PySem.W.Frag} {N : Kn} {A : Type}
theorem EvE.noneO (h : EvE B ρ te (dat tNon ()) ρ') : EvE B ρ te (dat (tOpt T) none) ρ' := h.as fun F x e => e
theorem EvE.someO (h : EvE B ρ te (dat T a) ρ') (n : ∀ F x, T.rep F x a → x ≠ .non) : EvE B ρ te (dat (tOpt T) (some a)) ρ' := h.as fun F x e => ⟨n F x e, e⟩
theorem EvE.getO {x : Option α} (h : EvE B ρ te (dat (tOpt T) x) ρ') (e : x = some a) : EvE B ρ te (dat T a) ρ' := by
  subst e
  exact h.as fun F x e => e.2
theorem nn_str {s : Str} : ∀ F x, tStr.rep F x s → x ≠ .non := fun F x e => by rw [show x = V.str s from e]; exact fun z => nomatch z
theorem nn_list {xs : List α} : ∀ F x, (tList T).rep F x xs → x ≠ .non := fun F x ⟨p, _, e, _⟩ => by rw [e]; exact fun z => nomatch z
theorem nn_ins {C : Addr} {ds : List (Str × Dt)} : ∀ F x, (tIns C).rep F x ds → x ≠ .non := fun F x ⟨p, _, _, e, _⟩ => by rw [e]; exact fun z => nomatch z
/-- a comprehension over anything that stands still, its turns leave the state as it is -/
theorem lcI_core {J : It} {e0 : En} {X : Hp → Prop} {vs : List V} {xs : List α} {Q : VK} (p : α → Bool) (g : α → β) (hj : j < ρ.length) (hz : xs.length < sizeLine)
    (ht : ∀ x ∈ xs, EvT B (ρ.set j (dat T x)) tt (p x) (ρ.set j (dat T x))) (he : ∀ x ∈ xs, p x = true → EvE B (ρ.set j (dat T x)) te (dat U (g x)) (ρ.set j (dat T x)))
    (jo : JO J X vs) (hl : vs.length = xs.length) (hX : ∀ (H' : Hp) (L : List En), Core B H' (e0 :: L) → X H') (hy : ∀ (i : Nat) (y : V) (H' : Hp) (L : List En), vs[i]? = some y → Core B H' (e0 :: L) → ∃ x, xs[i]? = some x ∧ Core B H' ((some y, dat T x) :: e0 :: L))
    (st1 : St B H σ ρ (e0 :: τ)) (q : ∀ v H', St B H' σ ρ ((some v, fre (oList U) ((xs.filter p).map g)) :: e0 :: τ) → Q v H') : ∀ D, H D = none → ∃ W : Nat → Nat → Hp → Prop, (∃ m, W 0 m (upd H D (.lst []))) ∧ ∀ i m H, W i m H →
  (J.stop i H ∧ Q (.ref D) H) ∨ (J.go i H ∧ ∃ Nx : Hp → Prop, (∀ H', Nx H' → ∃ m', m' < m ∧ W (i + 1) m' H') ∧ ∀ x H', J.yld i H x H' → gName j x (wipe σ [j]) H' fun σ2 H2 => wipe σ2 [j] = wipe σ [j] ∧ tt σ2 H2 fun b H3 =>
    if b = true then te σ2 H3 fun y H4 => ∃ acc, H4 D = some (.lst acc) ∧ acc.length < sizeLine ∧ Nx (upd H4 D (.lst (acc ++ [y]))) else Nx H3) := fun D hD => by
    obtain ⟨FF, ffs, cc⟩ := id st1.core
    have hio : D ∉ B.io := cc.noio hD
    have hlen := st1.len
    obtain ⟨Sj, hSj⟩ : ∃ Sj, ρ[j]? = some Sj := ⟨_, List.getElem?_eq_getElem hj⟩
    refine lc3_go jo (Turn := fun Nx x H' => gName j x (wipe σ [j]) H' fun σ2 H2 => wipe σ2 [j] = wipe σ [j] ∧ tt σ2 H2 fun b H3 => if b = true then te σ2 H3 fun y H4 => ∃ acc, H4 D = some (.lst acc) ∧ acc.length < sizeLine ∧ Nx (upd H4 D (.lst (acc ++ [y]))) else Nx H3)
      (fun i H' => Core B H' ((some (.ref D), own (.ref D) (oList U) (((xs.take i).filter p).map g)) :: e0 :: (τ ++ σ.zip ρ))) ?_ ?_ ?_ ?_
    · exact fun i H' c => hX H' _ c.swap
    · exact Core.allocO (o := .lst []) (s := own (.ref D) (oList U) []) st1.core hD fun F _ _ => ⟨rfl, D, [], rfl, rfl, upd_same, .nil⟩
    · intro i v H2 hv c
      obtain ⟨x, hx, c2⟩ := hy i v H2 _ hv c.swap
      have hxm : x ∈ xs := List.mem_of_getElem? hx
      have hi : i < xs.length := (List.getElem?_eq_some_iff.mp hx).1
      have c3 : Core B H2 ((some v, dat T x) :: (some (.ref D), own (.ref D) (oList U) (((xs.take i).filter p).map g)) :: e0 :: (τ ++ σ.zip ρ)) := c2.perm ((List.Perm.swap _ _ _).cons _)
      have hlen2 : (((xs.take i).filter p).map g).length < sizeLine := by
        rw [List.length_map]
        refine Nat.lt_of_le_of_lt (List.length_filter_le _ _) (Nat.lt_of_le_of_lt ?_ hz)
        rw [List.length_take]; omega
      refine lc_turn (G := fun H' => Core B H' ((some (.ref D), own (.ref D) (oList U) (((xs.take (i + 1)).filter p).map g)) :: e0 :: (τ ++ σ.zip ρ))) (I := ρ) (I' := ρ) (ρm := ρ.set j (dat T x)) (S' := dat T x) (k := p x) (y := g x) hlen rfl hSj hSj hlen2 c3 (ht x hxm) (he x hxm) (fun _ => rfl) fun H3 c4 => ?_
      have e1 : xs.take (i + 1) = xs.take i ++ [x] := by
        obtain ⟨hi', ex⟩ := List.getElem?_eq_some_iff.mp hx
        rw [List.take_succ_eq_append_getElem hi', ex]
      have e2 : ((xs.take (i + 1)).filter p).map g = if p x = true then ((xs.take i).filter p).map g ++ [g x] else ((xs.take i).filter p).map g := by
        rw [e1, List.filter_append, List.map_append]
        by_cases hp : p x = true
        · rw [if_pos hp, List.filter_cons, if_pos hp]; rfl
        · rw [if_neg hp, List.filter_cons, if_neg hp]; simp
      show Core B H3 ((some (.ref D), own (.ref D) (oList U) (((xs.take (i + 1)).filter p).map g)) :: e0 :: (τ ++ σ.zip ρ))
      rw [e2]
      exact c4
    · intro H2 c
      rw [hl, List.take_length] at c
      exact q _ H2 ⟨hlen, c.weak fun F fp _ ⟨h1, h2⟩ => .inl ⟨.ref D, rfl, h2, fun q hq => by
        obtain ⟨p', _, h5, h6, _⟩ := h2
        cases h5
        rw [h6] at hq
        rw [List.mem_singleton.mp hq]
        exact hio⟩⟩
theorem fr_lcI {W0 : TI} {xs : List α} (p : α → Bool) (g : α → β) (hj : j < ρ.length) (h0 : EvI B ρ W0 T xs) (hz : xs.length < sizeLine)
    (ht : ∀ x ∈ xs, EvT B (ρ.set j (dat T x)) tt (p x) (ρ.set j (dat T x))) (he : ∀ x ∈ xs, p x = true → EvE B (ρ.set j (dat T x)) te (dat U (g x)) (ρ.set j (dat T x))) :
    EvE B ρ (tLc W0 (gName j) tt te [j]) (fre (oList U) ((xs.filter p).map g)) ρ := fun H σ τ Q st q =>
  h0 H σ τ _ st fun J e0 X vs H1 jo hl hX hy st1 => lcI_core p g hj hz ht he jo hl hX hy st1 fun v H' st' => q v H' ⟨st'.len, st'.core.swap.cut⟩
/-! ### a dict of one owner, walked through -/
def oFrz (od : Obj) (ws : List (Key × V)) (T : Ty α) : OTy (List (Str × α)) := ⟨fun F H x fp xs => ∃ p, x = .ref p ∧ fp = [p] ∧ H p = some (.frz od (.dK ws)) ∧ Paired (kvR T F) ws xs,
  fun ⟨p, e, f, h, r⟩ m n => ⟨p, e, f, by rw [n p (by rw [f]; exact List.mem_cons_self)]; exact h, L2.Paired.mapP r fun _ _ z => kvR_mono m z⟩⟩
theorem kv_get {F : Hp} : ∀ {ws : List (Key × V)} {xs : List (Str × α)} {i : Nat} {y : V}, Paired (kvR T F) ws xs → (ws.map fun kv => kV kv.1)[i]? = some y → ∃ s, (xs.map (·.1))[i]? = some s ∧ y = .str s
  | _, _, _, _, .nil, h => by simp at h
  | _, _, 0, _, .cons a r, h => by
    simp at h
    refine ⟨_, rfl, ?_⟩
    rw [← h, a.1]
    rfl
  | _, _, i + 1, _, .cons a r, h => by
    obtain ⟨s, h1, h2⟩ := kv_get (i := i) r (by simpa using h)
    exact ⟨s, by simpa using h1, h2⟩
theorem fr_lcK {p : Addr} {xs : List (Str × α)} (f : Str → Bool) (g : Str → β) (hj : j < ρ.length) (hm : ρ[m]? = some (own (.ref p) (oDic T) xs)) (hz : xs.length < sizeLine)
    (ht : ∀ x ∈ xs.map (·.1), EvT B ((ρ.set m (isv (.ref p))).set j (dat tStr x)) tt (f x) ((ρ.set m (isv (.ref p))).set j (dat tStr x))) (he : ∀ x ∈ xs.map (·.1), f x = true → EvE B ((ρ.set m (isv (.ref p))).set j (dat tStr x)) te (dat U (g x)) ((ρ.set m (isv (.ref p))).set j (dat tStr x))) :
    EvE B ρ (tLockE (tLc (iKeys (tVar m)) (gName j) tt te [j])) (fre (oList U) (((xs.map (·.1)).filter f).map g)) ρ := fun H σ τ Q st q => by
  obtain ⟨F, fs, fp, c, p', ws, e1, e2, e3, e4⟩ := own_at st.len hm st.core
  cases e1
  refine ⟨p, .dK ws, e3, trivial, fun od => ?_⟩
  have st2 : St B (upd H p (.frz od (.dK ws))) σ (ρ.set m (own (.ref p) (oFrz od ws T) xs)) τ := st.write hm fun F fp _ ⟨p', ws', f1, f2, f3, f4⟩ => by
    cases f1
    rw [e3] at f3
    cases f3
    exact ⟨by rw [f2]; exact List.mem_cons_self, p, rfl, f2, upd_same, f4⟩
  have hml : m < ρ.length := (List.getElem?_eq_some_iff.mp hm).1
  have hm2 : (ρ.set m (own (.ref p) (oFrz od ws T) xs))[m]? = some (own (.ref p) (oFrz od ws T) xs) := by rw [List.getElem?_set_self hml]
  obtain ⟨v, ev, l, p1, p2, p3⟩ := zip_perm st2.len hm2
  have c2 := st2.core.perm (perm_top τ p1)
  obtain ⟨_, _, _, e', _⟩ := c2.o1
  subst e'
  have p2' := p2 (isv (.ref p))
  rw [List.set_set] at p2'
  have st3 : St B (upd H p (.frz od (.dK ws))) σ (ρ.set m (isv (.ref p))) ((some (.ref p), own (.ref p) (oFrz od ws T) xs) :: τ) := ⟨by rw [List.length_set]; exact st.len, by
    have c3 : Core B (upd H p (.frz od (.dK ws))) ((some (.ref p), isv (.ref p)) :: (some (.ref p), own (.ref p) (oFrz od ws T) xs) :: (τ ++ l)) := Core.add c2 fun _ _ _ => ⟨rfl, rfl⟩
    have q1 : ((some (V.ref p), own (.ref p) (oFrz od ws T) xs) :: τ ++ σ.zip (ρ.set m (isv (.ref p)))).Perm ((some (V.ref p), isv (.ref p)) :: (some (V.ref p), own (.ref p) (oFrz od ws T) xs) :: (τ ++ l)) := perm_top ((some (V.ref p), own (.ref p) (oFrz od ws T) xs) :: τ) p2'
    exact c3.perm q1.symm⟩
  refine ⟨.ref p, by rw [ev], p, od, rfl, .inl ⟨ws, upd_same, ?_⟩⟩
  refine lcI_core (Q := fun v H' => H' p = some (.frz od (.dK ws)) ∧ Q v (upd H' p (.dK ws))) (J := Itk p od ws) (e0 := (some (.ref p), own (.ref p) (oFrz od ws T) xs)) (X := fun H' => H' p = some (.frz od (.dK ws))) (vs := ws.map fun kv => kV kv.1) f g (by rw [List.length_set]; exact hj) (by rw [List.length_map]; exact hz) ht he ⟨fun i H q h => ⟨q, by simpa using h⟩, fun i H q h => ⟨q, by simpa using h⟩, fun i H x H' q ⟨e, k, v, h1, h2⟩ => ⟨e, by rw [List.getElem?_map, h1, h2]; rfl⟩⟩ (by rw [List.length_map, List.length_map]; exact e4.length) (fun H' L c => ?_) (fun i y H' L hy c => ?_) st3 fun v H' st' => ?_
  · obtain ⟨_, _, _, _, p', f1, _, f3, _⟩ := c.o1
    cases f1
    exact f3
  · obtain ⟨_, _, _, _, p', f1, _, f3, f4⟩ := c.o1
    obtain ⟨s, h1, h2⟩ := kv_get f4 hy
    exact ⟨s, h1, h2 ▸ c.sc sc_str⟩
  · generalize (fre (oList U) (((xs.map (·.1)).filter f).map g)) = R0 at *
    have c5 : Core B H' ((some (.ref p), own (.ref p) (oFrz od ws T) xs) :: (some v, R0) :: (τ ++ σ.zip (ρ.set m (isv (.ref p))))) := st'.core.swap
    obtain ⟨_, _, _, _, p', f1, _, f3, _⟩ := c5.o1
    cases f1
    refine ⟨f3, q _ _ ?_⟩
    have c6 : Core B (upd H' p (.dK ws)) ((some (.ref p), own (.ref p) (oDic T) xs) :: (some v, R0) :: (τ ++ σ.zip (ρ.set m (isv (.ref p))))) := c5.write fun F fp _ ⟨h1, p', g1, g2, g3, g4⟩ => by
      cases g1
      exact ⟨by rw [g2]; exact List.mem_cons_self, h1, p, ws, rfl, g2, upd_same, g4⟩
    refine ⟨st.len, ?_⟩
    obtain ⟨v2, ev2, l2, r1, r2, r3⟩ := zip_perm st.len hm
    rw [ev] at ev2
    cases ev2
    have c7 := c6.perm (perm_top ((some (.ref p), own (.ref p) (oDic T) xs) :: (some v, R0) :: τ) (r2 (isv (.ref p))))
    have c8 : Core B (upd H' p (.dK ws)) ((some (.ref p), own (.ref p) (oDic T) xs) :: (some v, R0) :: (τ ++ l2)) := c7.cut
    exact c8.perm (perm_top ((some v, R0) :: τ) r1).symm
end
end Sw
/-! text Sw18 -/
set_option maxHeartbeats 4000000
/-! Sw18: try that runs through, isinstance, list(o), enumerate, a display of two texts. -/
namespace Sw
open PySem PySem.Spec PyProof.Rows L2
/-- a try whose body raises nothing -/
theorem ps_try_pass {X : Cx} {body : List Stmt} {h₀ : ExceptHandler} {hs : List ExceptHandler} {pos : Pos} {tb : TS} (hb : ∀ pn, PSs (X.tr pn fun _ _ => False) body tb) : PS X (.Try body (h₀ :: hs) [] [] pos) tb := by
  refine ⟨fun pins s σ H D I h => ?_⟩
  have ok := I.ok
  refine wpAny_Try_except ?_
  refine wpAny_mono ((hb (X.pn ++ pins)).run [] s σ H D (I.toTry _) h) (fun f s1 hsp => ?_) (fun e s1 he => False.elim he)
  cases f with
  | next =>
    obtain ⟨σ', H', J', q⟩ := hsp
    exact wpAny_execs_nil ⟨σ', H', J'.ofTry ok, q⟩
  | brk =>
    obtain ⟨σ', H', J', q⟩ := hsp
    exact ⟨σ', H', J'.ofTry ok, q⟩
  | cont =>
    obtain ⟨σ', H', J', q⟩ := hsp
    exact ⟨σ', H', J'.ofTry ok, q⟩
  | ret u =>
    obtain ⟨v, σ', H', J', r, q⟩ := hsp
    exact ⟨v, σ', H', J'.ofTry ok, r, q⟩
variable {α β γ δ κ : Type}
/-- what of the text makes isinstance answer for instances of C -/
structure IsI (K : PySem.W.Frag) (C : Addr) : Prop where
  cl : Cls K C
  ha : PySem.W.findIn K (.ref C) "__class__" = some (some (.builtin "object.__class__"))
  hn : PySem.W.specialIn K (.builtin "object.__class__") "__get__" = some (some (.builtin "getset_descriptor.__get__"))
  htk : PySem.W.takesIn K (.builtin "object.__class__") = some true
  hm : PySem.W.mroIn K C (.type "object") = some true
section
variable {B : Bas} {H H' : Hp} {σ : L2.St} {ρ ρ1 ρ2 ρ3 ρ' : List SV} {τ : List En} {L L1 L2' : List En} {R S1 S2 S : SV} {ta tb te tl td tk tv : TE} {tt tu : TT} {as : TA} {a : α} {b : β} {c : γ} {T : Ty α} {U : Ty β} {W : Ty γ} {i j m : Nat} {K : PySem.W.Frag} {N : Kn} {A : Type}
theorem ev_isi {c : V} {u : Value} {bb : Bool} (hc : ClsV c u) (h : EvE B ρ te R ρ1) (ty : ∀ H v L, Core B H ((some v, R) :: L) → ∃ t, TyX K H v t ∧ PySem.W.kitOne K t u = some bb) : EvE B ρ (tCB (rIsi K) (tCons te (tCons (tC c) tNil))) (dat tBl bb) ρ1 := fun H σ τ Q st q =>
  h H σ τ _ st fun v H1 st1 => by
    obtain ⟨t, h1, h2⟩ := ty H1 v _ st1.core
    exact ⟨v, c, t, u, bb, rfl, hc, h1, h2, q _ H1 ⟨st1.len, st1.core.cut.sc sc_bl⟩⟩
theorem ty_str {s : Str} {u : Value} {bb : Bool} (h : PySem.W.kitOne K (.type "str") u = some bb) : ∀ H v L, Core B H ((some v, dat tStr s) :: L) → ∃ t, TyX K H v t ∧ PySem.W.kitOne K t u = some bb := fun H v L c => by
  obtain ⟨F, x, m, e1, e2⟩ := c.d1
  cases e1; cases e2
  exact ⟨_, .base (.str s), h⟩
theorem ty_bl {s : Bool} {u : Value} {bb : Bool} (h : PySem.W.kitOne K (.type "bool") u = some bb) : ∀ H v L, Core B H ((some v, dat tBl s) :: L) → ∃ t, TyX K H v t ∧ PySem.W.kitOne K t u = some bb := fun H v L c => by
  obtain ⟨F, x, m, e1, e2⟩ := c.d1
  cases e1; cases e2
  exact ⟨_, .base (.bl s), h⟩
theorem ty_non {s : Unit} {u : Value} {bb : Bool} (h : PySem.W.kitOne K (.type "NoneType") u = some bb) : ∀ H v L, Core B H ((some v, dat tNon s) :: L) → ∃ t, TyX K H v t ∧ PySem.W.kitOne K t u = some bb := fun H v L c => by
  obtain ⟨F, x, m, e1, e2⟩ := c.d1
  cases e1; cases e2
  exact ⟨_, .base .non, h⟩
theorem ty_lst {s : List α} {u : Value} {bb : Bool} (h : PySem.W.kitOne K (.type "list") u = some bb) : ∀ H v L, Core B H ((some v, dat (tList T) s) :: L) → ∃ t, TyX K H v t ∧ PySem.W.kitOne K t u = some bb := fun H v L c => by
  obtain ⟨F, x, m, e1, p, vs, e2, hp, _⟩ := c.d1
  cases e1; cases e2
  exact ⟨_, .base (.lst (m _ _ hp)), h⟩
theorem ty_ins {C : Addr} {s : List (Str × Dt)} {u : Value} {bb : Bool} (I : IsI K C) (h : PySem.W.kitOne K (.ref C) u = some bb) : ∀ H v L, Core B H ((some v, dat (tIns C) s) :: L) → ∃ t, TyX K H v t ∧ PySem.W.kitOne K t u = some bb := fun H v L c => by
  obtain ⟨F, x, m, e1, p, dx, vs, e2, hp, _⟩ := c.d1
  cases e1; cases e2
  exact ⟨_, .base (.ins (m _ _ hp) I.cl I.ha I.hn I.htk I.hm), h⟩
/-! ### list(o) -/
def itE (it l : Addr) (vs : List V) (T : Ty α) (xs : List α) : SV where
  ok _ F H v fp := v = some (.ref it) ∧ fp = [it] ∧ H it = some (ItO l it 0) ∧ F l = some (.lst vs) ∧ Paired (T.rep F) vs xs
  stab := fun ⟨h1, h2, h3, h5, h6⟩ m n => ⟨h1, h2, by rw [n it (by rw [h2]; exact List.mem_cons_self)]; exact h3, m _ _ h5, L2.Paired.mapP h6 fun _ _ z => T.mono m z⟩
  ioch := fun h _ => h
def gone (it : Addr) : SV where
  ok _ _ H _ fp := fp = [it] ∧ ∃ o, H it = some o
  stab := fun ⟨h2, o, h3⟩ m n => ⟨h2, o, by rw [n it (by rw [h2]; exact List.mem_cons_self)]; exact h3⟩
  ioch := fun h _ => h
theorem core_dup {e : En} (c : Core B H (e :: L)) (h : ∀ {io F H v fp}, e.2.ok io F H v fp → fp = []) : Core B H (e :: e :: L) := c.add fun F fs cc => by
  obtain ⟨fp, _, h2⟩ := Sl.mem cc.sl (List.mem_cons_self (a := e) (l := L))
  have := h h2
  rw [this] at h2
  exact h2
theorem core_callF {pre : A → Prop} {ins : A → List SV} {res : A → SV} {vs : List V} {Q : VK} {E : XK} (k : A) (c : Core B H (ens vs (ins k) ++ L)) (hl : vs.length = (ins k).length) (hp : pre k) (hf : ∀ s ∈ ins k, Fr s) (q : ∀ v H', Core B H' ((some v, res k) :: L) → Q v H') : spF pre ins res vs H Q E := by
  obtain ⟨F, fi, p, kk⟩ := c.frame (fr_ens hf)
  exact ⟨k, F, fi, hp, hl, p, fun v H' d => q v H' (kk H' _ d)⟩
theorem fr_listO {C : Addr} {pI pL : A → Prop} {iI iL : A → List SV} {rI : A → SV} {rL : A → SV} {xs : List α} {ds : List (Str × Dt)} {n : Int} (k : A) (h : EvA B ρ as [dat (tIns C) ds] ρ1) (hiI : iI k = [dat (tIns C) ds]) (hiL : iL k = [dat (tIns C) ds]) (hrI : rI k = itS T xs) (hrL : rL k = dat tInt n)
    (hpI : pI k) (hpL : pL k) (hn : 0 ≤ n ∧ n ≤ 1000000) (hz : xs.length < sizeLine) : EvE B ρ (tCB (rLs K C (spF pI iI rI) (spF pL iL rL)) as) (fre (oList T) xs) ρ1 := fun H σ τ Q st q =>
  h H σ τ _ st fun vs H1 hl st1 => by
    match vs, hl, st1 with
    | [v], _, st1 =>
      have c : Core B H1 ((some v, dat (tIns C) ds) :: (τ ++ σ.zip ρ1)) := st1.core
      obtain ⟨p, dx, fs, ev, hp, _⟩ := ins_at c
      cases ev
      refine ⟨p, dx, fs, rfl, hp, fun qq hq => ?_⟩
      have c2 := c.allocO (o := .lst []) (s := own (.ref qq) (oList T) []) hq fun F _ _ => ⟨rfl, qq, [], rfl, rfl, upd_same, .nil⟩
      have hio : qq ∉ B.io := by
        obtain ⟨F, fs, cc⟩ := c
        exact cc.noio hq
      have dup : ∀ {io F H v fp}, (dat (tIns C) ds).ok io F H v fp → fp = [] := fun h => h.1
      have c3 : Core B (upd H1 qq (.lst [])) (ens [V.ref p] (iI k) ++ ((some (.ref p), dat (tIns C) ds) :: (some (.ref qq), own (.ref qq) (oList T) []) :: (τ ++ σ.zip ρ1))) := by
        rw [hiI]
        exact core_dup c2.swap dup
      refine core_callF k c3 (by rw [hiI]; rfl) hpI (by rw [hiI]; exact fr_l1) fun v H2 c4 => ?_
      rw [hrI] at c4
      obtain ⟨F, fs2, cc⟩ := c4
      cases fs2 with
      | nil => exact cc.sl.elim
      | cons fp fs2 =>
        obtain ⟨it, l, vs, e1, e2, e3, e4, e5, e6⟩ := cc.sl.1
        cases e1
        have c5 : Core B H2 ((some (.ref it), itE it l vs T xs) :: (some (.ref p), dat (tIns C) ds) :: (some (.ref qq), own (.ref qq) (oList T) []) :: (τ ++ σ.zip ρ1)) := ⟨F, fp :: fs2, cc.fr, cc.fh, cc.kp, cc.lv, cc.nc, cc.il, ⟨⟨rfl, e2, e3, e5, e6⟩, cc.sl.2⟩, cc.nd, cc.ow⟩
        have own_q : ∀ {H : Hp} {L : List En}, Core B H ((some (.ref qq), own (.ref qq) (oList T) []) :: L) → H qq = some (.lst []) := fun c => by
          obtain ⟨_, _, _, _, p', vs', f1, _, f3, f4⟩ := c.o1
          cases f1
          cases f4
          exact f3
        obtain ⟨p', dx', fs', ev', hp', _⟩ := ins_at c5.cut
        cases ev'
        refine ⟨it, l, rfl, e3, own_q c5.cut.cut, ⟨_, _, hp'⟩, ?_⟩
        have c6 : Core B H2 (ens [V.ref p] (iL k) ++ ((some (.ref p), dat (tIns C) ds) :: (some (.ref it), itE it l vs T xs) :: (some (.ref qq), own (.ref qq) (oList T) []) :: (τ ++ σ.zip ρ1))) := by
          rw [hiL]
          exact core_dup c5.swap dup
        refine core_callF k c6 (by rw [hiL]; rfl) hpL (by rw [hiL]; exact fr_l1) fun v H3 c7 => ?_
        rw [hrL] at c7
        obtain ⟨_, y, _, g1, g2⟩ := c7.d1
        cases g1
        cases g2
        have c8 : Core B H3 ((some (.ref it), itE it l vs T xs) :: (some (.ref qq), own (.ref qq) (oList T) []) :: (τ ++ σ.zip ρ1)) := c7.cut.cut
        obtain ⟨F3, fs3, cc3⟩ := id c8
        match fs3, cc3 with
        | [], cc3 => exact cc3.sl.elim
        | [_], cc3 => exact cc3.sl.2.elim
        | fa :: fb :: fs3, cc3 =>
          obtain ⟨⟨_, w2, w3, w5, w6⟩, ⟨_, p', vs', y1, y2, y3, y4⟩, _⟩ := cc3.sl
          cases y1
          have hF : ∀ x ∈ (fa :: fb :: fs3).flatten, F3 x = none := fun x hx => (cc3.ow x hx).1
          have l1 : l ≠ qq := fun z => by
            have := hF qq (by rw [y2]; simp)
            rw [← z, w5] at this; cases this
          have l2 : l ≠ it := fun z => by
            have := hF it (by rw [w2]; simp)
            rw [← z, w5] at this; cases this
          refine ⟨n, vs, rfl, hn.1, hn.2, w3, own_q c8.cut, .inl (.inl (cc3.fh _ _ w5)), l1, l2, by rw [w6.length]; exact hz, fun ii => q _ _ ⟨st1.len, ?_⟩⟩
          have c9 : Core B (upd H3 it (ItE it ii)) ((some (.ref it), gone it) :: (some (.ref qq), own (.ref qq) (oList T) []) :: (τ ++ σ.zip ρ1)) := c8.write fun F fp _ ⟨_, h2, _⟩ => ⟨by rw [h2]; exact List.mem_cons_self, h2, _, upd_same⟩
          have hqi : qq ≠ it := fun z => by
            have nd := cc3.nd
            rw [w2, y2, z] at nd
            simp at nd
          -- the items read off the frozen list
          have c10 : Core B (upd H3 it (ItE it ii)) ((some (.ref l), dat (tRowAt K T l vs) xs) :: (some (.ref qq), own (.ref qq) (oList T) []) :: (τ ++ σ.zip ρ1)) := by
            obtain ⟨F4, fs4, cc4⟩ := (show Core B H3 ((some (.ref it), itE it l vs T xs) :: (some (.ref qq), own (.ref qq) (oList T) []) :: (τ ++ σ.zip ρ1)) from c8)
            have d : Core B H3 ((some (.ref l), dat (tRowAt K T l vs) xs) :: (some (.ref it), itE it l vs T xs) :: (some (.ref qq), own (.ref qq) (oList T) []) :: (τ ++ σ.zip ρ1)) := c8.add fun F fs cc => by
              obtain ⟨fp, _, _, _, _, h5, h6⟩ := Sl.mem cc.sl (List.mem_cons_self (a := ((some (V.ref it), itE it l vs T xs) : En)) (l := (some (.ref qq), own (.ref qq) (oList T) []) :: (τ ++ σ.zip ρ1)))
              exact ⟨rfl, .ref l, rfl, rfl, .inl (.inl h5), h6⟩
            have d2 : Core B (upd H3 it (ItE it ii)) ((some (.ref it), gone it) :: (some (.ref l), dat (tRowAt K T l vs) xs) :: (some (.ref qq), own (.ref qq) (oList T) []) :: (τ ++ σ.zip ρ1)) := d.swap.write fun F fp _ ⟨_, h2, _⟩ => ⟨by rw [h2]; exact List.mem_cons_self, h2, _, upd_same⟩
            exact d2.cut
          have st9 : St B (upd H3 it (ItE it ii)) [some (.ref qq)] [own (.ref qq) (oList T) []] ((some (.ref l), dat (tRowAt K T l vs) xs) :: (τ ++ σ.zip ρ1)) := ⟨rfl, by
            show Core B _ (((some (V.ref l), dat (tRowAt K T l vs) xs) :: (τ ++ σ.zip ρ1)) ++ [(some (V.ref qq), own (.ref qq) (oList T) [])])
            exact c10.perm ((List.perm_append_singleton _ _).symm.cons _)⟩
          have st10 := st9.writeT (m := 0) (O' := oList T) (k1 := xs) (p := qq) (o := .lst vs) rfl (fun F fp _ hw ⟨p', vs', f1, f2, f3, f4⟩ => by
            cases f1
            obtain ⟨_, _, hr⟩ := hw
            exact ⟨by rw [f2]; exact List.mem_cons_self, qq, vs, rfl, f2, upd_same, hr⟩)
          have c11 : Core B (upd (upd H3 it (ItE it ii)) qq (.lst vs)) ((τ ++ σ.zip ρ1) ++ [(some (.ref qq), own (.ref qq) (oList T) xs)]) := st10.core
          have c12 := c11.perm (List.perm_append_singleton _ _)
          exact c12.weak fun F fp _ ⟨h1, h2⟩ => .inl ⟨.ref qq, rfl, h2, fun x hx => by
            obtain ⟨p', _, h5, h6, _⟩ := h2
            cases h5
            rw [h6] at hx
            rw [List.mem_singleton.mp hx]
            exact hio⟩
end
end Sw
/-! text Sw19 -/
set_option maxHeartbeats 4000000
/-! Sw19: enumerate, displays of texts, .index, dicts of the module. -/
namespace Sw
open PySem PySem.Spec PyProof.Rows L2
variable {α β γ δ κ : Type}
section
variable {B : Bas} {H H' : Hp} {σ : L2.St} {ρ ρ1 ρ2 ρ3 ρ' : List SV} {τ : List En} {L L1 L2' : List En} {R S1 S2 S : SV} {ta tb te tl td tk tv : TE} {tt tu : TT} {as : TA} {a : α} {b : β} {c : γ} {T : Ty α} {U : Ty β} {W : Ty γ} {i j k m : Nat} {K : PySem.W.Frag} {N : Kn} {A : Type}
/-- for j, k in enumerate(xs) -/
theorem ex_forE {tb : TS} {xs : List α} (ρI : Nat → List SV) (h : EvA B ρ as [dat (tRow K T) xs] ρ1) (h0 : EntL ρ1 (ρI 0)) (hj : ∀ n, j < (ρI n).length) (hk : ∀ n, k < (ρI n).length)
    (hs : ∀ n x, xs[n]? = some x → ExS B (((ρI n).set j (dat tInt (n : Int))).set k (dat T x)) tb { N with nx := fun ρ' => EntL ρ' (ρI (n + 1)), ct := fun ρ' => EntL ρ' (ρI (n + 1)), bk := N.nx })
    (hd : N.nx (ρI xs.length)) : ExS B ρ (tFor (iEnum K as) (gTup K 2 (gCons (gName j) (gCons (gName k) gNil))) tb) N := fun H σ τ D st k1 k2 k3 k4 =>
  h H σ τ _ st fun vs H1 hl st1 => by
    match vs, hl, st1 with
    | [v], _, st1 =>
      obtain ⟨p, vs, rfl, hl, hq, st2⟩ := St.row (show St B H1 σ ρ1 ((some v, dat (tRow K T) xs) :: τ) from st1)
      refine ⟨p, vs, rfl, hq, fun i m σ' H' => m = vs.length - i ∧ i ≤ vs.length ∧ St B H' σ' (ρI i) ((some (.ref p), dat (tRowAt K T p vs) xs) :: τ), ⟨_, rfl, Nat.zero_le _, h0.ent _ _ _ st2⟩, ?_⟩
      rintro i m σ' H' ⟨rfl, hi, st'⟩
      have q := (show Core B H' ((some (.ref p), dat (tRowAt K T p vs) xs) :: (τ ++ σ'.zip (ρI i))) from st'.core).rowq
      by_cases hlt : i < vs.length
      · refine .inr ⟨⟨vs, vs[i], q, by simp [hlt]⟩, fun σ2 H2 => St B H2 σ2 (ρI (i + 1)) ((some (.ref p), dat (tRowAt K T p vs) xs) :: τ), fun σ2 H2 st2 => ⟨vs.length - (i + 1), by omega, rfl, hlt, st2⟩, fun w H2 y => ?_⟩
        obtain ⟨T0, y0, e1, e2, e3, e4⟩ := y
        subst e1 e3
        have hy := e4 vs q
        obtain ⟨x, hx, c⟩ := (show Core B H' ((some (.ref p), dat (tRowAt K T p vs) xs) :: (τ ++ σ'.zip (ρI i))) from st'.core).rowi hy
        have c2 : Core B (upd H' T0 (.tup [.int (i : Nat), y0])) ((some y0, dat T x) :: (some (.ref p), dat (tRowAt K T p vs) xs) :: (τ ++ σ'.zip (ρI i))) := by
          obtain ⟨F, fs, cc⟩ := c
          exact ⟨F, fs, cc.new e2⟩
        refine ⟨T0, [.int (i : Nat), y0], rfl, .inl (.inl upd_same), rfl, .int (i : Nat), [y0], rfl, ?_⟩
        have s1 : St B (upd H' T0 (.tup [.int (i : Nat), y0])) (σ'.set j (some (.int (i : Nat)))) ((ρI i).set j (dat tInt (i : Int))) ((some y0, dat T x) :: (some (.ref p), dat (tRowAt K T p vs) xs) :: τ) :=
          St.asg ⟨st'.len, c2.sc (fun _ => rfl)⟩ (hj i)
        have s2 : St B (upd H' T0 (.tup [.int (i : Nat), y0])) ((σ'.set j (some (.int (i : Nat)))).set k (some y0)) (((ρI i).set j (dat tInt (i : Int))).set k (dat T x)) ((some (.ref p), dat (tRowAt K T p vs) xs) :: τ) :=
          St.asg s1 (by rw [List.length_set]; exact hk i)
        refine ⟨y0, [], rfl, rfl, ?_⟩
        exact hs i x hx _ _ ((some (.ref p), dat (tRowAt K T p vs) xs) :: τ) _ s2 (fun ρ2 H2 σ2 e st2 => e.ent _ _ _ st2) (fun R ρ2 v H2 σ2 k st2 => k2 R ρ2 v H2 σ2 k st2.cut2) (fun ρ2 H2 σ2 k st2 => k1 ρ2 H2 σ2 k st2.cut) (fun ρ2 H2 σ2 e st2 => e.ent _ _ _ st2)
      · have e : i = vs.length := by omega
        subst e
        rw [hl] at st'
        exact .inl ⟨⟨vs, q, Nat.le_refl _⟩, k1 _ H' σ' hd st'.cut⟩
/-- {"a": "b", "c": "d"} -/
theorem fr_disp2 {a b c d : Str} (ne : a ≠ c) : EvE B ρ (tDisp [(tC (.str a), tC (.str b)), (tC (.str c), tC (.str d))]) (fre (oDic tStr) [(a, b), (c, d)]) ρ := fun H σ τ Q st q => fun p hp => by
  have e : mergeK [] [((Sum.inr a : Key), V.str b), ((Sum.inr c : Key), V.str d)] = [((Sum.inr a : Key), V.str b), ((Sum.inr c : Key), V.str d)] := by
    show putK (putK [] (Sum.inr a) (.str b)) (Sum.inr c) (.str d) = _
    simp [putK, ne]
  refine ⟨upd_same, [((Sum.inr a : Key), V.str b), ((Sum.inr c : Key), V.str d)], rfl, by show 2 ≤ 15; decide, ?_⟩
  rw [e, upd_upd]
  refine q _ _ ⟨st.len, ?_⟩
  exact st.core.allocO (o := .dK [((Sum.inr a : Key), V.str b), ((Sum.inr c : Key), V.str d)]) (s := fre (oDic tStr) [(a, b), (c, d)]) hp fun F _ hi => ⟨.ref p, rfl, ⟨p, _, rfl, rfl, upd_same, .cons ⟨rfl, rfl⟩ (.cons ⟨rfl, rfl⟩ .nil)⟩, fun q hq => by rw [List.mem_singleton.mp hq]; exact hi⟩
/-- xs.index(s), where s stands there -/
theorem str_flat (xs : List Str) : (xs.map V.str).all flatV = true := by
  induction xs with
  | nil => rfl
  | cons x xs ih => rw [List.map_cons, List.all_cons, ih]; rfl
theorem ev_index {s : Str} {xs : List Str} (hn : xs[j]? = some s) (hf : ∀ m z, m < j → xs[m]? = some z → z ≠ s) (ha : EvE B ρ ta (dat (tRow K tStr) xs) ρ1) (hb : EvA B ρ1 as [dat tStr s] ρ2) :
    EvE B ρ (tBM K "list" (rIndex K) ta as) (dat tInt (j : Int)) ρ2 := fun H σ τ Q st q =>
  ha H σ τ _ st fun x H1 st1 => by
    obtain ⟨p, vs, rfl, hl, hq, st2⟩ := st1.row
    refine ⟨.inl ⟨rfl, vs, hq⟩, hb H1 σ _ _ st2 fun ws H2 hl2 st3 => ?_⟩
    match ws, hl2, st3 with
    | [w], _, st3 =>
      have c : Core B H2 ((some w, dat tStr s) :: (some (.ref p), dat (tRowAt K tStr p vs) xs) :: (τ ++ σ.zip ρ2)) := st3.core
      obtain ⟨F, y, m, e1, e2⟩ := c.d1
      cases e1; cases e2
      have hq2 := c.cut.rowq
      obtain ⟨F, y, m, _, _, _, hr⟩ := c.cut.d1
      have ev := pair_str hr
      subst ev
      refine ⟨p, xs.map V.str, .str s, j, .str s, rfl, rfl, hq2, rfl, str_flat xs, by rw [List.getElem?_map, hn]; rfl, by simp [eqV], fun m z hm hz => ?_, q _ H2 ⟨st3.len, c.cut.cut.sc sc_int⟩⟩
      rw [List.getElem?_map] at hz
      cases e : xs[m]? with
      | none => rw [e] at hz; cases hz
      | some z0 =>
        rw [e] at hz
        cases hz
        have := hf m z0 hm e
        simp [eqV, this]
/-- d[k], d a dict of the module with text keys and values -/
theorem ev_kd {d : Addr} {s z : Str} {r : R2} (hr : r = fun x y H Q => ∃ (z : Str) (u0 : Value) (v0 : V), x = .ref d ∧ y = .str z ∧ PySem.W.nsIn K d z = some (some u0) ∧ RelV v0 u0 ∧ Q v0 H) (ha : EvE B ρ ta (isv (.ref d)) ρ1) (hb : EvE B ρ1 tb (dat tStr s) ρ2) (hg : ∃ t, PySem.W.nsIn K d s = some (some (.str z t))) :
    EvE B ρ (tOp r ta tb) (dat tStr z) ρ2 := fun H σ τ Q st q =>
  ha H σ τ _ st fun x H1 st1 => hb H1 σ _ _ st1 fun y H2 st2 => by
    obtain ⟨F, y', _, e1, e2⟩ := st2.core.d1
    cases e1; cases e2
    have ex := st2.cut.core.i1
    cases ex
    obtain ⟨t, hg⟩ := hg
    subst hr
    exact ⟨s, _, .str z, rfl, rfl, hg, ⟨t, rfl⟩, q _ H2 ⟨st2.len, st2.cut.cut.core.sc sc_str⟩⟩
theorem ev_isv {x : V} : EvE B ρ (tC x) (isv x) ρ := fun H σ τ Q st q => q x H ⟨st.len, st.core.add fun _ _ _ => ⟨rfl, rfl⟩⟩
end
end Sw
/-! text Kb1 -/
set_option maxHeartbeats 4000000
/-! Kb1: what the text has of defs and members of classes, and what is promised of them. -/
namespace Sw
open PySem PySem.Spec PyProof.Rows L2
structure Ini (K : PySem.W.Frag) (C : Addr) (qual : Str) (st : Stmt) : Prop where
  ex : ∃ f fd, Fun K "__init__" qual st f fd ∧ Mk K C f
structure Opr (K : PySem.W.Frag) (C : Addr) (m qual : Str) (st : Stmt) : Prop where
  ex : ∃ f fd, Fun K m qual st f fd ∧ OpO K C m f
structure Pgt (K : PySem.W.Frag) (C : Addr) (m qual : Str) (st : Stmt) : Prop where
  ex : ∃ p f fd, Fun K m qual st f fd ∧ PropOf K C m p f
  cl : Cls K C
structure Pst (K : PySem.W.Frag) (C : Addr) (m qual : Str) (st : Stmt) : Prop where
  ex : ∃ p f fd, Fun K m qual st f fd ∧ PropS K C m p f
structure Stc (K : PySem.W.Frag) (C : Addr) (m qual : Str) (st : Stmt) : Prop where
  ex : ∃ p f fd, Fun K m qual st f fd ∧ Sm K C m p f
structure Clm (K : PySem.W.Frag) (C : Addr) (m qual : Str) (st : Stmt) : Prop where
  ex : ∃ p f fd, Fun K m qual st f fd ∧ ClX.CMet K C (.type "type") m p f
  rd : ClX.CRead K C (.type "type")
structure Itr2 (K : PySem.W.Frag) (C : Addr) (qi ql : Str) (si sl : Stmt) : Prop where
  ex : ∃ fi fdi fl fdl, Fun K "__iter__" qi si fi fdi ∧ Fun K "__len__" ql sl fl fdl ∧ ItL K C fi fl
section
variable {P : Program} {w : World} {K : PySem.W.Frag} {mg : Str → Option Value} {base : Heap} {C : Addr} {m : Str} {sp sp' spI spL : Sp} {k : Nat}
structure On (P : Program) (w : World) (K : PySem.W.Frag) (mg : Str → Option Value) (base : Heap) (k : Nat) (C : Addr) (m : Str) (sp : Sp) : Prop where
  ex : ∃ f, FnR P w K mg base CX0 k f sp ∧ OpO K C m f
structure Pn (P : Program) (w : World) (K : PySem.W.Frag) (mg : Str → Option Value) (base : Heap) (k : Nat) (C : Addr) (m : Str) (sp : Sp) : Prop where
  ex : ∃ p f fd ps, PropOf K C m p f ∧ FnOk P w K mg base CX0 k f fd ps sp ∧ Binds K fd ps []
  cl : Cls K C
structure Psn (P : Program) (w : World) (K : PySem.W.Frag) (mg : Str → Option Value) (base : Heap) (k : Nat) (C : Addr) (m : Str) (sp : Sp) : Prop where
  ex : ∃ p f, FnR P w K mg base CX0 k f sp ∧ PropS K C m p f
structure Stn (P : Program) (w : World) (K : PySem.W.Frag) (mg : Str → Option Value) (base : Heap) (k : Nat) (C : Addr) (m : Str) (sp : Sp) : Prop where
  ex : ∃ p f, FnR P w K mg base CX0 k f sp ∧ Sm K C m p f
structure Cln (P : Program) (w : World) (K : PySem.W.Frag) (mg : Str → Option Value) (base : Heap) (k : Nat) (C : Addr) (m : Str) (sp : Sp) : Prop where
  ex : ∃ p f, FnR P w K mg base CX0 k f sp ∧ ClX.CMet K C (.type "type") m p f
  rd : ClX.CRead K C (.type "type")
structure Iln (P : Program) (w : World) (K : PySem.W.Frag) (mg : Str → Option Value) (base : Heap) (k : Nat) (C : Addr) (spI spL : Sp) : Prop where
  ex : ∃ fi fl, FnR P w K mg base CX0 k fi spI ∧ FnR P w K mg base CX0 k fl spL ∧ ItL K C fi fl
/-- how the arguments of a def bind by position -/
abbrev HB (x qual : Str) (st : Stmt) (ps : List Str) : Prop := ∀ (kV doc pm : Value) (an : Option Addr) (cdv ct : Value) (us : List Value), us.length = ps.length → bindArgs (PySem.W.fnOf x qual (defArgs st) (defBody st) (defScope st) .none kV doc pm an cdv ct) ⟨us, []⟩ = pure (ps.zip us)
abbrev HBody (P : Program) (w : World) (K : PySem.W.Frag) (mg : Str → Option Value) (base : Heap) (N : List Str) (qual : Str) (st : Stmt) (f : Addr) (k : Nat) (sp : Sp) : Prop := ∀ (cdv : Value) (A : Around) (outer : List Env) (s : Shared) (H : Hp) (vs : List V) (Q : VK) (E : XK), Room k (A.deeper (envOfC qual (defScope st) s.heap.objs.size f cdv)) → sp vs H Q E →
      ∃ t, PSs (cxOf CX0 P w K mg base N qual (defScope st) f cdv A outer s H E).nox (defBody st) t ∧ t { nx := fun _ H' => Q .non H', rt := Q } (L2.start N vs) H
theorem fnr_of {x qual : Str} {st : Stmt} {f : Addr} {fd : FuncData} {N ps : List Str} (F : Fun K x qual st f fd) (S : FnScope N ps (defScope st)) (len : ∀ vs H Q E, sp vs H Q E → vs.length = ps.length) (hb : HB x qual st ps) (hbody : HBody P w K mg base N qual st f k sp) : FnR P w K mg base CX0 (k + 1) f sp := by
  have G := F.ok (P := P) (w := w) (mg := mg) (base := base) S len hbody
  exact (G.raw (F.binds hb) .nil).imp fun vs H Q E h => by rw [List.append_nil]; exact h
theorem md_of {qual : Str} {st : Stmt} {N ps : List Str} (d : Md K C m qual st) (S : FnScope N ps (defScope st)) (len : ∀ vs H Q E, sp vs H Q E → vs.length = ps.length) (hb : HB m qual st ps) (hbody : ∀ f, HBody P w K mg base N qual st f k sp) : Mn P w K mg base (k + 1) C m sp := by
  obtain ⟨f, fd, F, hm⟩ := d.ex
  exact ⟨⟨f, fnr_of F S len hb (hbody f), hm⟩, d.cl⟩
theorem op_of {qual : Str} {st : Stmt} {N ps : List Str} (d : Opr K C m qual st) (S : FnScope N ps (defScope st)) (len : ∀ vs H Q E, sp vs H Q E → vs.length = ps.length) (hb : HB m qual st ps) (hbody : ∀ f, HBody P w K mg base N qual st f k sp) : On P w K mg base (k + 1) C m sp := by
  obtain ⟨f, fd, F, hm⟩ := d.ex
  exact ⟨⟨f, fnr_of F S len hb (hbody f), hm⟩⟩
theorem pg_of {qual : Str} {st : Stmt} {N ps : List Str} (d : Pgt K C m qual st) (S : FnScope N ps (defScope st)) (len : ∀ vs H Q E, sp vs H Q E → vs.length = ps.length) (hb : HB m qual st ps) (hbody : ∀ f, HBody P w K mg base N qual st f k sp) : Pn P w K mg base (k + 1) C m sp := by
  obtain ⟨p, f, fd, F, hm⟩ := d.ex
  exact ⟨⟨p, f, fd, ps, hm, F.ok S len (hbody f), F.binds hb⟩, d.cl⟩
theorem ps_of {qual : Str} {st : Stmt} {N ps : List Str} (d : Pst K C m qual st) (S : FnScope N ps (defScope st)) (len : ∀ vs H Q E, sp vs H Q E → vs.length = ps.length) (hb : HB m qual st ps) (hbody : ∀ f, HBody P w K mg base N qual st f k sp) : Psn P w K mg base (k + 1) C m sp := by
  obtain ⟨p, f, fd, F, hm⟩ := d.ex
  exact ⟨⟨p, f, fnr_of F S len hb (hbody f), hm⟩⟩
theorem st_of {qual : Str} {st : Stmt} {N ps : List Str} (d : Stc K C m qual st) (S : FnScope N ps (defScope st)) (len : ∀ vs H Q E, sp vs H Q E → vs.length = ps.length) (hb : HB m qual st ps) (hbody : ∀ f, HBody P w K mg base N qual st f k sp) : Stn P w K mg base (k + 1) C m sp := by
  obtain ⟨p, f, fd, F, hm⟩ := d.ex
  exact ⟨⟨p, f, fnr_of F S len hb (hbody f), hm⟩⟩
theorem cl_of {qual : Str} {st : Stmt} {N ps : List Str} (d : Clm K C m qual st) (S : FnScope N ps (defScope st)) (len : ∀ vs H Q E, sp vs H Q E → vs.length = ps.length) (hb : HB m qual st ps) (hbody : ∀ f, HBody P w K mg base N qual st f k sp) : Cln P w K mg base (k + 1) C m sp := by
  obtain ⟨p, f, fd, F, hm⟩ := d.ex
  exact ⟨⟨p, f, fnr_of F S len hb (hbody f), hm⟩, d.rd⟩
theorem in_of {x qual : Str} {st : Stmt} {N ps : List Str} (d : Ini K C qual st) (hx : mg x = some (.ref C)) (S : FnScope N ps (defScope st)) (len : ∀ vs H Q E, sp vs H Q E → vs.length = ps.length) (hb : HB "__init__" qual st ps) (hbody : ∀ f, HBody P w K mg base N qual st f k sp) : Cn P w K mg base (k + 1) x C sp := by
  obtain ⟨f, fd, F, hm⟩ := d.ex
  exact ⟨⟨f, fnr_of F S len hb (hbody f), hm⟩, hx⟩
/-- .. with one *parameter behind the others -/
theorem ins_of {x qual pv : Str} {st : Stmt} {N ps : List Str} (d : Ini K C qual st) (hx : mg x = some (.ref C)) (S : FnScope N (ps ++ [pv]) (defScope st))
    (hb : ∀ (kV doc pm : Value) (an : Option Addr) (cdv ct : Value) (us rest : List Value), us.length = ps.length → bindArgs (PySem.W.fnOf "__init__" qual (defArgs st) (defBody st) (defScope st) .none kV doc pm an cdv ct) ⟨us ++ rest, []⟩ = (newTuple rest >>= fun t => pure (ps.zip us ++ [(pv, t)])))
    (hbody : ∀ f, HBody P w K mg base N qual st f k sp) : Cn P w K mg base (k + 1) x C (spStar ps.length sp) := by
  obtain ⟨f, fd, F, hm⟩ := d.ex
  obtain ⟨oc, od, kV, doc, pm, an, cdv, ct, osl, rfl, lk, hcd⟩ := F.ex
  exact ⟨⟨f, StX.fn_star (P := P) (w := w) (mg := mg) (base := base) (CX := CX0) lk hcd S StX.cxUp_none (hb kV doc pm an cdv ct) (fun A outer s H vs Q E hr h => by
    obtain ⟨t, h1, h2⟩ := hbody f cdv A outer s H vs Q E hr h
    exact ⟨t, h1.nox, h2⟩), hm⟩, hx⟩
theorem il_of {qi ql : Str} {si sl : Stmt} {Ni Nl ps : List Str} (d : Itr2 K C qi ql si sl) (Si : FnScope Ni ps (defScope si)) (leni : ∀ vs H Q E, spI vs H Q E → vs.length = ps.length) (hbi : HB "__iter__" qi si ps) (hi : ∀ f, HBody P w K mg base Ni qi si f k spI)
    (Sl : FnScope Nl ps (defScope sl)) (lenl : ∀ vs H Q E, spL vs H Q E → vs.length = ps.length) (hbl : HB "__len__" ql sl ps) (hl : ∀ f, HBody P w K mg base Nl ql sl f k spL) : Iln P w K mg base (k + 1) C spI spL := by
  obtain ⟨fi, fdi, fl, fdl, F1, F2, h⟩ := d.ex
  exact ⟨⟨fi, fl, fnr_of F1 Si leni hbi (hi fi), fnr_of F2 Sl lenl hbl (hl fl), h⟩⟩
end
/-! ### in expressions -/
section
variable {X : Cx} {j k : Nat} {C : Addr} {m x : Str} {sp spI spL : Sp} {o e : Expr} {es : List Expr} {ta tb te : TE} {t : TA} {p sp_ pos apos : Pos} {pl : Sem Bool}
theorem pe_pg (S : Pn X.prog X.w X.K X.mg X.base k C m sp) (hr : Room j X.A) (hk : k + 1 ≤ j) (he : PE X e ta) (hab : attributeBase e m X.env (eval e X.env) = eval e X.env := by rfl) : PE X (.Attribute e m pos) (tProp C sp [] E0 ta) := by
  obtain ⟨p, f, fd, ps, h1, h2, h3⟩ := S.ex
  exact pe_prop he S.cl h1 h2 (hr.mono hk) h3 .nil pass0 hab
theorem on_op {op : Operator} (S : On X.prog X.w X.K X.mg X.base k C (PySem.dunder op.info.2) sp) (hr : Room j X.A) (hk : k ≤ j) : OpR X (binaryOp op) (rOwn2 C sp) := by
  obtain ⟨f, h1, h2⟩ := S.ex
  exact op_own h2 h1 hr hk
theorem on_le (S : On X.prog X.w X.K X.mg X.base k C "__le__" sp) (hr : Room j X.A) (hk : k ≤ j) (hn : PySem.W.notFirst X.K C (.ref C) = true) : OpR X (compareOp .LtE) (rOwn2 C sp) := by
  obtain ⟨f, h1, h2⟩ := S.ex
  exact op_ownLe h2 h1 hr hk hn
theorem on_ip {op : Operator} (S : On X.prog X.w X.K X.mg X.base k C (PySem.dunderI op.info.2) sp) (hr : Room j X.A) (hk : k ≤ j) : PIp X op (rIpO C sp) := by
  obtain ⟨f, h1, h2⟩ := S.ex
  exact ip_own h2 h1 hr hk
theorem on_set (S : On X.prog X.w X.K X.mg X.base k C "__setitem__" sp) (hq : PySem.W.noSeq X.K C = true) (hr : Room j X.A) (hk : k ≤ j) : PSet X (rSetO C sp) := by
  obtain ⟨f, h1, h2⟩ := S.ex
  exact set_own h2 hq h1 hr hk
theorem pe_st (S : Stn X.prog X.w X.K X.mg X.base k C m sp) (hr : Room j X.A) (hk : k ≤ j) (he : PE X o (tC (.ref C)))
    (ht : eval (.Call (.Attribute o m apos) [] [] pos) X.env = (do
      let ov ← eval o X.env
      standAt apos.atName
      let (f, first) ← holding [ov] (getMethod ov m pl)
      callWith pos f first (backTo pos (starEach [] X.env)) (backToKw pos (keywordEach [] X.env))) := by rfl) : PE X (.Call (.Attribute o m apos) [] [] pos) (tCl sp tNil) := by
  obtain ⟨p, f, h1, h2⟩ := S.ex
  exact pe_sm0 h2 h1 hr hk he ht
theorem cr_listO (S : Iln X.prog X.w X.K X.mg X.base k C spI spL) (hr : Room j X.A) (hk : k + 3 ≤ j) (mono : ∀ {vs : List V} {H : Hp} {Q Q' : VK}, spL vs H Q E0 → (∀ v H', Q v H' → Q' v H') → spL vs H Q' E0) : CallR X (.type "list") (rLs X.K C spI spL) := by
  obtain ⟨fi, fl, h1, h2, h3⟩ := S.ex
  exact call_listO mono h3 h1 h2 (hr.mono hk)
theorem spF_mono {A : Type} {pre : A → Prop} {ins : A → List SV} {res : A → SV} {vs : List V} {H : Hp} {Q Q' : VK} (h : spF pre ins res vs H Q E0) (q : ∀ v H', Q v H' → Q' v H') : spF pre ins res vs H Q' E0 := by
  obtain ⟨a, F, fi, h1, h2, h3, h4⟩ := h
  exact ⟨a, F, fi, h1, h2, h3, fun v H' d => q v H' (h4 v H' d)⟩
end
def clsBody : Stmt → List Stmt
  | .ClassDef _ _ _ body .. => body
  | _ => []
end Sw
namespace K79
open PySem PySem.Spec PyProof.Rows L2 Sw
def mem (i j : Nat) : Stmt := (clsBody (top i)).getD j (.Pass ⟨0, 0, 0, 0⟩)
end K79
/-! text Kt -/
set_option maxHeartbeats 4000000
namespace K79
open PySem PySem.Spec PyProof.Rows L2 Sw
abbrev c_STANDINGS : List Str := ["look", "peek", "reserved"]
abbrev c_DEEDS : List Str := ["see", "lend", "reserve", "mark", "fill", "pack", "work"]
abbrev c_STRONG : List Str := ["mark", "fill", "pack", "work"]
abbrev c_RELATIONS : List Str := ["same", "over", "overbox", "under", "underbox"]
abbrev c_MOVING : List Str := ["pack", "work"]
abbrev c_INVERSES : List (Str × Str) := [("same", "same"), ("over", "under"), ("overbox", "underbox"), ("under", "over"), ("underbox", "overbox"), ("apart", "apart")]
structure Tx (w : World) (K : PySem.W.Frag) (mg : Str → Option Value) : Type where
  a_STANDINGS : Addr
  g_STANDINGS : ∃ u, mg "STANDINGS" = some u ∧ RelV (.ref a_STANDINGS) u
  v_STANDINGS : Sc (tTupL K tStr) c_STANDINGS (.ref a_STANDINGS)
  a_DEEDS : Addr
  g_DEEDS : ∃ u, mg "DEEDS" = some u ∧ RelV (.ref a_DEEDS) u
  v_DEEDS : Sc (tTupL K tStr) c_DEEDS (.ref a_DEEDS)
  a_STRONG : Addr
  g_STRONG : ∃ u, mg "STRONG" = some u ∧ RelV (.ref a_STRONG) u
  v_STRONG : Sc (tTupL K tStr) c_STRONG (.ref a_STRONG)
  a_RELATIONS : Addr
  g_RELATIONS : ∃ u, mg "RELATIONS" = some u ∧ RelV (.ref a_RELATIONS) u
  v_RELATIONS : Sc (tTupL K tStr) c_RELATIONS (.ref a_RELATIONS)
  a_MOVING : Addr
  g_MOVING : ∃ u, mg "MOVING" = some u ∧ RelV (.ref a_MOVING) u
  v_MOVING : Sc (tTupL K tStr) c_MOVING (.ref a_MOVING)
  a_INV : Addr
  g_INV : ∃ u, mg "INVERSES" = some u ∧ RelV (.ref a_INV) u
  kd_INV : ∃ es n, KDict K w a_INV es n
  kv_INV : ∀ p ∈ c_INVERSES, ∃ t, PySem.W.nsIn K a_INV p.1 = some (some (.str p.2 t))
  d__wall : Df K mg "_wall" (top 0)
  d_inverse : Df K mg "inverse" (top 8)
  d_all_entries : Df K mg "all_entries" (top 14)
  d_written_entries : Df K mg "written_entries" (top 15)
  d_words_of : Df K mg "words_of" (top 16)
  d_expand : Df K mg "expand" (top 17)
  d_words_of_entry : Df K mg "words_of_entry" (top 18)
  d_is_live : Df K mg "is_live" (top 19)
  d_live_among : Df K mg "live_among" (top 20)
  d_in_order : Df K mg "in_order" (top 22)
  d_gathered_entries : Df K mg "gathered_entries" (top 23)
  d_with_both : Df K mg "with_both" (top 24)
  d_entries_without : Df K mg "entries_without" (top 25)
  d_shared_entries : Df K mg "shared_entries" (top 26)
  d_entries_of : Df K mg "entries_of" (top 27)
  d_rule_lines : Df K mg "rule_lines" (top 28)
  d_checked_word : Df K mg "checked_word" (top 32)
  d_all_promises : Df K mg "all_promises" (top 34)
  d_can_move : Df K mg "can_move" (top 35)
  d_can_change : Df K mg "can_change" (top 36)
  d_harmful : Df K mg "harmful" (top 37)
  d_freest : Df K mg "freest" (top 38)
  d_is_sound : Df K mg "is_sound" (top 40)
  d_strongest : Df K mg "strongest" (top 41)
  d__law_begin : Df K mg "_law_begin" (top 43)
  d__law_draw : Df K mg "_law_draw" (top 44)
  d__law_pick : Df K mg "_law_pick" (top 45)
  d__law_same_row : Df K mg "_law_same_row" (top 46)
  d__law_same : Df K mg "_law_same" (top 47)
  d__law_standings : Df K mg "_law_standings" (top 48)
  d__law_deeds : Df K mg "_law_deeds" (top 49)
  d__law_strong : Df K mg "_law_strong" (top 50)
  d__law_relations : Df K mg "_law_relations" (top 51)
  d__law_inverse : Df K mg "_law_inverse" (top 52)
  d__law_entries : Df K mg "_law_entries" (top 53)
  d__law_harmful : Df K mg "_law_harmful" (top 54)
  d__law_live : Df K mg "_law_live" (top 55)
  d__law_some : Df K mg "_law_some" (top 56)
  d__law_few : Df K mg "_law_few" (top 57)
  d__law_grown : Df K mg "_law_grown" (top 58)
  d__law_rule : Df K mg "_law_rule" (top 59)
  d__law_drawn_entries : Df K mg "_law_drawn_entries" (top 60)
  d__law_best : Df K mg "_law_best" (top 61)
  d__law_words_of : Df K mg "_law_words_of" (top 62)
  d__law_weaker : Df K mg "_law_weaker" (top 63)
  d__law_is_told : Df K mg "_law_is_told" (top 64)
  d__law_combines : Df K mg "_law_combines" (top 65)
  d_law : Df K mg "law" (top 66)
  cR : Addr
  g_cR : mg "Rule" = some (.ref cR)
  clR : Cls K cR
  isR : IsI K cR
  nfR : PySem.W.notFirst K cR (.ref cR) = true
  m_R_init : Ini K cR "Rule.__init__" (mem 29 1)
  m_R_read : Clm K cR "read" "Rule.read" (mem 29 2)
  m_R_full : Stc K cR "full" "Rule.full" (mem 29 4)
  m_R_live : Pgt K cR "live" "Rule.live" (mem 29 5)
  m_R_setitem : Opr K cR "__setitem__" "Rule.__setitem__" (mem 29 13)
  m_R_or : Opr K cR "__or__" "Rule.__or__" (mem 29 14)
  m_R_ior : Opr K cR "__ior__" "Rule.__ior__" (mem 29 23)
  m_R_le : Opr K cR "__le__" "Rule.__le__" (mem 29 26)
  cP : Addr
  g_cP : mg "Promise" = some (.ref cP)
  clP : Cls K cP
  isP : IsI K cP
  nfP : PySem.W.notFirst K cP (.ref cP) = true
  m_P_init : Ini K cP "Promise.__init__" (mem 33 1)
  m_P_look : Pgt K cP "look" "Promise.look" (mem 33 3)
  m_P_slook : Pst K cP "look" "Promise.look" (mem 33 4)
  m_P_reserved : Pgt K cP "reserved" "Promise.reserved" (mem 33 5)
  m_P_sreserved : Pst K cP "reserved" "Promise.reserved" (mem 33 6)
  m_P_change : Md K cP "change" "Promise.change" (mem 33 7)
  m_P_le : Opr K cP "__le__" "Promise.__le__" (mem 33 10)
  m_P_or : Opr K cP "__or__" "Promise.__or__" (mem 33 11)
  m_P_and : Opr K cP "__and__" "Promise.__and__" (mem 33 12)
  na_rows : NoAttr K cR "_rows"
  na_look : NoAttr K cP "_look"
  na_reserved : NoAttr K cP "_reserved"
  nsR : PySem.W.noSeq K cR = true
  it_R : Itr2 K cR "Rule.__iter__" "Rule.__len__" (mem 29 9) (mem 29 8)
  k_RR : PySem.W.kitOne K (.ref cR) (.ref cR) = some true
  k_SR : PySem.W.kitOne K (.type "str") (.ref cR) = some false
  k_PP : PySem.W.kitOne K (.ref cP) (.ref cP) = some true
  k_NP : PySem.W.kitOne K (.type "NoneType") (.ref cP) = some false
  a_WORDS : Addr
  cv_WORDS : ClX.CRead K cP (.type "type") ∧ ClX.CVal K cP (.type "type") "WORDS" (.ref a_WORDS) (.ref a_WORDS)
  v_WORDS : Sc (tTupL K tStr) ["fresh", "kept"] (.ref a_WORDS)
  n_len : mg "len" = none
  n_any : mg "any" = none
  n_all : mg "all" = none
  n_int : mg "int" = none
  n_list : mg "list" = none
  n_range : mg "range" = none
  n_isinstance : mg "isinstance" = none
  n_enumerate : mg "enumerate" = none
  n_str : mg "str" = none
  n_bool : mg "bool" = none
  n_iter : mg "iter" = none
  n_tuple : mg "tuple" = none
end K79
/-! text H1 -/
set_option maxHeartbeats 4000000
/-! H1: the head of k79: what the run leaves, as one look at a part of the heap -/
namespace Sw
open PySem PySem.W PySem.Spec PyProof.Rows He
/-! ### facts of classes as Bools -/
def isiB (K : Frag) (C : Addr) : Bool := eqO (findIn K (.ref C) "__class__") (some (some (.builtin "object.__class__"))) && (eqO (specialIn K (.builtin "object.__class__") "__get__") (some (some (.builtin "getset_descriptor.__get__"))) &&
  (decide (takesIn K (.builtin "object.__class__") = some true) && decide (mroIn K C (.type "object") = some true)))
theorem isiB_ok {K : Frag} {C : Addr} (c : L2.Cls K C) (h : isiB K C = true) : IsI K C := by
  obtain ⟨h1, h⟩ := ba h
  obtain ⟨h2, h⟩ := ba h
  obtain ⟨h3, h4⟩ := ba h
  exact ⟨c, eqO_ok h1, eqO_ok h2, of_decide_eq_true h3, of_decide_eq_true h4⟩
def opoB (K : Frag) (C : Addr) (m : PySem.Str) : Bool := eqO (findIn K (.ref C) m) (some (some (.ref (ma K C m)))) && (isFn K (.ref (ma K C m)) && selfFirst K C)
theorem opoB_ok {K : Frag} {C : Addr} {m : PySem.Str} (h : opoB K C m = true) : OpO K C m (ma K C m) := by
  obtain ⟨h1, h⟩ := ba h
  obtain ⟨h2, h3⟩ := ba h
  exact ⟨eqO_ok h1, h2, h3⟩
def itlB (K : Frag) (C : Addr) : Bool := eqO (findIn K (.ref C) "__iter__") (some (some (.ref (ma K C "__iter__")))) && (isFn K (.ref (ma K C "__iter__")) && (eqO (findIn K (.ref C) "__len__") (some (some (.ref (ma K C "__len__")))) && isFn K (.ref (ma K C "__len__"))))
theorem itlB_ok {K : Frag} {C : Addr} (h : itlB K C = true) : ItL K C (ma K C "__iter__") (ma K C "__len__") := by
  obtain ⟨h1, h⟩ := ba h
  obtain ⟨h2, h⟩ := ba h
  obtain ⟨h3, h4⟩ := ba h
  exact ⟨eqO_ok h1, h2, eqO_ok h3, h4⟩
def crdB (K : Frag) (C : Addr) : Bool := readsIn K C (.type "type") && eqO (specialIn K (.ref C) "__getattribute__") (some (some (.builtin "type.__getattribute__")))
theorem crdB_ok {K : Frag} {C : Addr} (h : crdB K C = true) : ClX.CRead K C (.type "type") := by
  obtain ⟨h1, h2⟩ := ba h
  exact ⟨h1, eqO_ok h2⟩
/-! ### records of a class -/
def rec1 (K : Frag) (p : Addr) (T : String) : Bool := match recIn K p T with
  | some (.ref _ :: _) => true
  | _ => false
theorem rec1_ok {K : Frag} {C : Addr} {m : PySem.Str} {T : String} (h : rec1 K (ma K C m) T = true) : ∃ rest, recIn K (ma K C m) T = some (.ref (He5.wf K C T m) :: rest) := by
  unfold rec1 at h
  unfold He5.wf
  split at h
  · rename_i f r e
    exact ⟨r, by rw [e]⟩
  · cases h
/-- a property's setter -/
def wfs (K : Frag) (C : Addr) (m : PySem.Str) : Addr := match recIn K (ma K C m) "property" with
  | some (_ :: .ref f :: _) => f
  | _ => 0
def rec2 (K : Frag) (p : Addr) : Bool := match recIn K p "property" with
  | some (_ :: .ref _ :: _) => true
  | _ => false
theorem rec2_ok {K : Frag} {C : Addr} {m : PySem.Str} (h : rec2 K (ma K C m) = true) : ∃ a rest, recIn K (ma K C m) "property" = some (a :: .ref (wfs K C m) :: rest) := by
  unfold rec2 at h
  unfold wfs
  split at h
  · rename_i a f r e
    exact ⟨a, r, by rw [e]⟩
  · cases h
def proB (K : Frag) (C : Addr) (m : PySem.Str) : Bool := eqO (findIn K (.ref C) m) (some (some (.ref (ma K C m)))) && (eqO (specialIn K (.ref (ma K C m)) "__get__") (some (some (.builtin "property.__get__"))) &&
  (decide (takesIn K (.ref (ma K C m)) = some true) && rec1 K (ma K C m) "property"))
theorem proB_ok {K : Frag} {C : Addr} {m : PySem.Str} (h : proB K C m = true) : L2.PropOf K C m (ma K C m) (He5.wf K C "property" m) := by
  obtain ⟨h1, h⟩ := ba h
  obtain ⟨h2, h⟩ := ba h
  obtain ⟨h3, h4⟩ := ba h
  exact ⟨eqO_ok h1, eqO_ok h2, of_decide_eq_true h3, rec1_ok h4⟩
def prsB (K : Frag) (C : Addr) (m : PySem.Str) : Bool := eqO (takerIn K C m) (some (some (.ref (ma K C m)))) && (decide (typeIn K (.ref (ma K C m)) = some (.type "property")) && rec2 K (ma K C m))
theorem prsB_ok {K : Frag} {C : Addr} {m : PySem.Str} (c : L2.Cls K C) (h : prsB K C m = true) : PropS K C m (ma K C m) (wfs K C m) := by
  obtain ⟨h1, h⟩ := ba h
  obtain ⟨h2, h3⟩ := ba h
  exact ⟨c.po, c.sa, eqO_ok h1, of_decide_eq_true h2, rec2_ok h3⟩
/-! ### a tuple at an address -/
def tupAt (K : Frag) (a : Addr) (vs : List Dv) : Bool := match K.lookup a with
  | some ⟨.type c, _, .seq its _, _⟩ => decide (c = "tuple") && (decide (its.size ≤ sizeLine) && relAll (vs.map (Dv.v K)) its.toList)
  | _ => false
theorem tupAt_ok {K : Frag} {a : Addr} {vs : List Dv} (h : tupAt K a vs = true) (H : L2.Hp) : L2.SqT K H a (vs.map (Dv.v K)) := by
  unfold tupAt at h
  cases q : K.lookup a with
  | none =>
    rw [q] at h
    cases h
  | some o =>
    obtain ⟨oc, od, dt, osl⟩ := o
    rw [q] at h
    cases oc with
    | type c =>
      cases dt with
      | seq its n =>
        obtain ⟨h1, h2⟩ := ba h
        obtain ⟨h3, h4⟩ := ba h2
        exact .inr ⟨_, its, n, q, congrArg Value.type (of_decide_eq_true h1), rfl, of_decide_eq_true h3, relAll_ok h4⟩
      | _ => cases h
    | _ => cases dt <;> cases h
theorem paired_str {K : Frag} {F : L2.Hp} : ∀ xs : List PySem.Str, Paired (tStr.rep F) ((xs.map Dv.str).map (Dv.v K)) xs
  | [] => .nil
  | _ :: r => .cons rfl (paired_str r)
theorem sc_tup {K : Frag} {a : Addr} {xs : List PySem.Str} (h : tupAt K a (xs.map Dv.str) = true) : Sc (tTupL K tStr) xs (.ref a) := fun F => ⟨a, _, rfl, tupAt_ok h F, paired_str xs⟩
end Sw
namespace K79
open PySem PySem.W PySem.Spec PyProof.Rows Sw
abbrev c_WORDS : List PySem.Str := ["fresh", "kept"]
def wAd (K : Frag) : Addr := match findCls K (.ref (He.ga K "Promise")) (.type "type") "WORDS" with
  | some (.val (.ref a)) => a
  | _ => 0
def wAdB (K : Frag) : Bool := match findCls K (.ref (He.ga K "Promise")) (.type "type") "WORDS" with
  | some (.val (.ref _)) => true
  | _ => false
theorem wAdB_ok {K : Frag} (h : wAdB K = true) : findCls K (.ref (He.ga K "Promise")) (.type "type") "WORDS" = some (.val (.ref (wAd K))) := by
  unfold wAdB at h
  unfold wAd
  split at h
  · rename_i a e
    rw [e]
  · cases h
def ex0 (K : Frag) : List Bool := [
  He.Fa.ok K (.glo "STANDINGS"),
  He.Fa.ok K (.glo "DEEDS"),
  He.Fa.ok K (.glo "STRONG"),
  He.Fa.ok K (.glo "RELATIONS"),
  He.Fa.ok K (.glo "MOVING"),
  He.Fa.ok K (.glo "INVERSES"),
  He.Fa.ok K (.glo "_wall"),
  He.Fa.ok K (.glo "inverse"),
  He.Fa.ok K (.glo "all_entries"),
  He.Fa.ok K (.glo "written_entries"),
  He.Fa.ok K (.glo "words_of"),
  He.Fa.ok K (.glo "expand"),
  He.Fa.ok K (.glo "words_of_entry"),
  He.Fa.ok K (.glo "is_live"),
  He.Fa.ok K (.glo "live_among"),
  He.Fa.ok K (.glo "in_order"),
  He.Fa.ok K (.glo "gathered_entries"),
  He.Fa.ok K (.glo "with_both"),
  He.Fa.ok K (.glo "entries_without"),
  He.Fa.ok K (.glo "shared_entries"),
  He.Fa.ok K (.glo "entries_of"),
  He.Fa.ok K (.glo "rule_lines"),
  He.Fa.ok K (.glo "checked_word"),
  He.Fa.ok K (.glo "all_promises")]
def ex1 (K : Frag) : List Bool := [
  He.Fa.ok K (.glo "can_move"),
  He.Fa.ok K (.glo "can_change"),
  He.Fa.ok K (.glo "harmful"),
  He.Fa.ok K (.glo "freest"),
  He.Fa.ok K (.glo "is_sound"),
  He.Fa.ok K (.glo "strongest"),
  He.Fa.ok K (.glo "_law_begin"),
  He.Fa.ok K (.glo "_law_draw"),
  He.Fa.ok K (.glo "_law_pick"),
  He.Fa.ok K (.glo "_law_same_row"),
  He.Fa.ok K (.glo "_law_same"),
  He.Fa.ok K (.glo "_law_standings"),
  He.Fa.ok K (.glo "_law_deeds"),
  He.Fa.ok K (.glo "_law_strong"),
  He.Fa.ok K (.glo "_law_relations"),
  He.Fa.ok K (.glo "_law_inverse"),
  He.Fa.ok K (.glo "_law_entries"),
  He.Fa.ok K (.glo "_law_harmful"),
  He.Fa.ok K (.glo "_law_live"),
  He.Fa.ok K (.glo "_law_some"),
  He.Fa.ok K (.glo "_law_few"),
  He.Fa.ok K (.glo "_law_grown"),
  He.Fa.ok K (.glo "_law_rule"),
  He.Fa.ok K (.glo "_law_drawn_entries")]
def ex2 (K : Frag) : List Bool := [
  He.Fa.ok K (.glo "_law_best"),
  He.Fa.ok K (.glo "_law_words_of"),
  He.Fa.ok K (.glo "_law_weaker"),
  He.Fa.ok K (.glo "_law_is_told"),
  He.Fa.ok K (.glo "_law_combines"),
  He.Fa.ok K (.glo "law"),
  He.Fa.ok K (.glo "Rule"),
  He.Fa.ok K (.glo "Promise"),
  He.Fa.ok K (.free "len"),
  He.Fa.ok K (.free "any"),
  He.Fa.ok K (.free "all"),
  He.Fa.ok K (.free "int"),
  He.Fa.ok K (.free "list"),
  He.Fa.ok K (.free "range"),
  He.Fa.ok K (.free "isinstance"),
  He.Fa.ok K (.free "enumerate"),
  He.Fa.ok K (.free "str"),
  He.Fa.ok K (.free "bool"),
  He.Fa.ok K (.free "iter"),
  He.Fa.ok K (.free "tuple"),
  tupAt K (He.ga K "STANDINGS") (c_STANDINGS.map He.Dv.str),
  tupAt K (He.ga K "DEEDS") (c_DEEDS.map He.Dv.str),
  tupAt K (He.ga K "STRONG") (c_STRONG.map He.Dv.str),
  tupAt K (He.ga K "RELATIONS") (c_RELATIONS.map He.Dv.str)]
def ex3 (K : Frag) : List Bool := [
  tupAt K (He.ga K "MOVING") (c_MOVING.map He.Dv.str),
  tupAt K (wAd K) (c_WORDS.map He.Dv.str),
  He.valsB K (He.ga K "INVERSES") (c_INVERSES.map fun q => (q.1, He.Dv.str q.2)),
  He.Fa.ok K (.cls "Rule"),
  isiB K (He.ga K "Rule"),
  notFirst K (He.ga K "Rule") (.ref (He.ga K "Rule")),
  He.Fa.ok K (.mkr "Rule"),
  crdB K (He.ga K "Rule"),
  He.Fa.ok K (.cls "Promise"),
  isiB K (He.ga K "Promise"),
  notFirst K (He.ga K "Promise") (.ref (He.ga K "Promise")),
  He.Fa.ok K (.mkr "Promise"),
  crdB K (He.ga K "Promise"),
  opoB K (He.ga K "Rule") "__setitem__",
  opoB K (He.ga K "Rule") "__or__",
  opoB K (He.ga K "Rule") "__ior__",
  opoB K (He.ga K "Rule") "__le__",
  opoB K (He.ga K "Promise") "__le__",
  opoB K (He.ga K "Promise") "__or__",
  opoB K (He.ga K "Promise") "__and__",
  He5.wrapB K (He.ga K "Rule") "classmethod" "classmethod.__get__" "read",
  fnIn K (He5.wf K (He.ga K "Rule") "classmethod" "read"),
  He5.wrapB K (He.ga K "Rule") "staticmethod" "staticmethod.__get__" "full",
  proB K (He.ga K "Rule") "live"]
def ex4 (K : Frag) : List Bool := [
  proB K (He.ga K "Promise") "look",
  proB K (He.ga K "Promise") "reserved",
  prsB K (He.ga K "Promise") "look",
  prsB K (He.ga K "Promise") "reserved",
  He.Fa.ok K (.meth "Promise" "change"),
  He.Fa.ok K (.noat "Rule" "_rows"),
  He.Fa.ok K (.noat "Promise" "_look"),
  He.Fa.ok K (.noat "Promise" "_reserved"),
  noSeq K (He.ga K "Rule"),
  itlB K (He.ga K "Rule"),
  decide (kitOne K (.ref (He.ga K "Rule")) (.ref (He.ga K "Rule")) = some true),
  decide (kitOne K (.type "str") (.ref (He.ga K "Rule")) = some false),
  decide (kitOne K (.ref (He.ga K "Promise")) (.ref (He.ga K "Promise")) = some true),
  decide (kitOne K (.type "NoneType") (.ref (He.ga K "Promise")) = some false),
  wAdB K]
def exs (K : Frag) : List Bool := ex0 K ++ (ex1 K ++ (ex2 K ++ (ex3 K ++ (ex4 K))))
def fn0 : List He5.DefA := [
  ⟨fun K => He.ga K "_wall", "_wall", "_wall", L2.defArgs (top 0), L2.defBody (top 0), L2.defScope (top 0), [], []⟩,
  ⟨fun K => He.ga K "inverse", "inverse", "inverse", L2.defArgs (top 8), L2.defBody (top 8), L2.defScope (top 8), [], []⟩,
  ⟨fun K => He.ga K "all_entries", "all_entries", "all_entries", L2.defArgs (top 14), L2.defBody (top 14), L2.defScope (top 14), [], []⟩,
  ⟨fun K => He.ga K "written_entries", "written_entries", "written_entries", L2.defArgs (top 15), L2.defBody (top 15), L2.defScope (top 15), [], []⟩,
  ⟨fun K => He.ga K "words_of", "words_of", "words_of", L2.defArgs (top 16), L2.defBody (top 16), L2.defScope (top 16), [], []⟩,
  ⟨fun K => He.ga K "expand", "expand", "expand", L2.defArgs (top 17), L2.defBody (top 17), L2.defScope (top 17), [], []⟩,
  ⟨fun K => He.ga K "words_of_entry", "words_of_entry", "words_of_entry", L2.defArgs (top 18), L2.defBody (top 18), L2.defScope (top 18), [], []⟩,
  ⟨fun K => He.ga K "is_live", "is_live", "is_live", L2.defArgs (top 19), L2.defBody (top 19), L2.defScope (top 19), [], []⟩,
  ⟨fun K => He.ga K "live_among", "live_among", "live_among", L2.defArgs (top 20), L2.defBody (top 20), L2.defScope (top 20), [], []⟩,
  ⟨fun K => He.ga K "in_order", "in_order", "in_order", L2.defArgs (top 22), L2.defBody (top 22), L2.defScope (top 22), [], []⟩,
  ⟨fun K => He.ga K "gathered_entries", "gathered_entries", "gathered_entries", L2.defArgs (top 23), L2.defBody (top 23), L2.defScope (top 23), [], []⟩,
  ⟨fun K => He.ga K "with_both", "with_both", "with_both", L2.defArgs (top 24), L2.defBody (top 24), L2.defScope (top 24), [], []⟩,
  ⟨fun K => He.ga K "entries_without", "entries_without", "entries_without", L2.defArgs (top 25), L2.defBody (top 25), L2.defScope (top 25), [], []⟩,
  ⟨fun K => He.ga K "shared_entries", "shared_entries", "shared_entries", L2.defArgs (top 26), L2.defBody (top 26), L2.defScope (top 26), [], []⟩,
  ⟨fun K => He.ga K "entries_of", "entries_of", "entries_of", L2.defArgs (top 27), L2.defBody (top 27), L2.defScope (top 27), [], []⟩,
  ⟨fun K => He.ga K "rule_lines", "rule_lines", "rule_lines", L2.defArgs (top 28), L2.defBody (top 28), L2.defScope (top 28), [], []⟩,
  ⟨fun K => He.ga K "checked_word", "checked_word", "checked_word", L2.defArgs (top 32), L2.defBody (top 32), L2.defScope (top 32), [], []⟩,
  ⟨fun K => He.ga K "all_promises", "all_promises", "all_promises", L2.defArgs (top 34), L2.defBody (top 34), L2.defScope (top 34), [], []⟩,
  ⟨fun K => He.ga K "can_move", "can_move", "can_move", L2.defArgs (top 35), L2.defBody (top 35), L2.defScope (top 35), [], []⟩,
  ⟨fun K => He.ga K "can_change", "can_change", "can_change", L2.defArgs (top 36), L2.defBody (top 36), L2.defScope (top 36), [], []⟩,
  ⟨fun K => He.ga K "harmful", "harmful", "harmful", L2.defArgs (top 37), L2.defBody (top 37), L2.defScope (top 37), [], []⟩,
  ⟨fun K => He.ga K "freest", "freest", "freest", L2.defArgs (top 38), L2.defBody (top 38), L2.defScope (top 38), [], []⟩,
  ⟨fun K => He.ga K "is_sound", "is_sound", "is_sound", L2.defArgs (top 40), L2.defBody (top 40), L2.defScope (top 40), [], []⟩,
  ⟨fun K => He.ga K "strongest", "strongest", "strongest", L2.defArgs (top 41), L2.defBody (top 41), L2.defScope (top 41), [], []⟩]
def fn1 : List He5.DefA := [
  ⟨fun K => He.ga K "_law_begin", "_law_begin", "_law_begin", L2.defArgs (top 43), L2.defBody (top 43), L2.defScope (top 43), [], []⟩,
  ⟨fun K => He.ga K "_law_draw", "_law_draw", "_law_draw", L2.defArgs (top 44), L2.defBody (top 44), L2.defScope (top 44), [], []⟩,
  ⟨fun K => He.ga K "_law_pick", "_law_pick", "_law_pick", L2.defArgs (top 45), L2.defBody (top 45), L2.defScope (top 45), [], []⟩,
  ⟨fun K => He.ga K "_law_same_row", "_law_same_row", "_law_same_row", L2.defArgs (top 46), L2.defBody (top 46), L2.defScope (top 46), [], []⟩,
  ⟨fun K => He.ga K "_law_same", "_law_same", "_law_same", L2.defArgs (top 47), L2.defBody (top 47), L2.defScope (top 47), [], []⟩,
  ⟨fun K => He.ga K "_law_standings", "_law_standings", "_law_standings", L2.defArgs (top 48), L2.defBody (top 48), L2.defScope (top 48), [], []⟩,
  ⟨fun K => He.ga K "_law_deeds", "_law_deeds", "_law_deeds", L2.defArgs (top 49), L2.defBody (top 49), L2.defScope (top 49), [], []⟩,
  ⟨fun K => He.ga K "_law_strong", "_law_strong", "_law_strong", L2.defArgs (top 50), L2.defBody (top 50), L2.defScope (top 50), [], []⟩,
  ⟨fun K => He.ga K "_law_relations", "_law_relations", "_law_relations", L2.defArgs (top 51), L2.defBody (top 51), L2.defScope (top 51), [], []⟩,
  ⟨fun K => He.ga K "_law_inverse", "_law_inverse", "_law_inverse", L2.defArgs (top 52), L2.defBody (top 52), L2.defScope (top 52), [], []⟩,
  ⟨fun K => He.ga K "_law_entries", "_law_entries", "_law_entries", L2.defArgs (top 53), L2.defBody (top 53), L2.defScope (top 53), [], []⟩,
  ⟨fun K => He.ga K "_law_harmful", "_law_harmful", "_law_harmful", L2.defArgs (top 54), L2.defBody (top 54), L2.defScope (top 54), [], []⟩,
  ⟨fun K => He.ga K "_law_live", "_law_live", "_law_live", L2.defArgs (top 55), L2.defBody (top 55), L2.defScope (top 55), [], []⟩,
  ⟨fun K => He.ga K "_law_some", "_law_some", "_law_some", L2.defArgs (top 56), L2.defBody (top 56), L2.defScope (top 56), [], []⟩,
  ⟨fun K => He.ga K "_law_few", "_law_few", "_law_few", L2.defArgs (top 57), L2.defBody (top 57), L2.defScope (top 57), [], []⟩,
  ⟨fun K => He.ga K "_law_grown", "_law_grown", "_law_grown", L2.defArgs (top 58), L2.defBody (top 58), L2.defScope (top 58), [], []⟩,
  ⟨fun K => He.ga K "_law_rule", "_law_rule", "_law_rule", L2.defArgs (top 59), L2.defBody (top 59), L2.defScope (top 59), [], []⟩,
  ⟨fun K => He.ga K "_law_drawn_entries", "_law_drawn_entries", "_law_drawn_entries", L2.defArgs (top 60), L2.defBody (top 60), L2.defScope (top 60), [], []⟩,
  ⟨fun K => He.ga K "_law_best", "_law_best", "_law_best", L2.defArgs (top 61), L2.defBody (top 61), L2.defScope (top 61), [], []⟩,
  ⟨fun K => He.ga K "_law_words_of", "_law_words_of", "_law_words_of", L2.defArgs (top 62), L2.defBody (top 62), L2.defScope (top 62), [], []⟩,
  ⟨fun K => He.ga K "_law_weaker", "_law_weaker", "_law_weaker", L2.defArgs (top 63), L2.defBody (top 63), L2.defScope (top 63), [], []⟩,
  ⟨fun K => He.ga K "_law_is_told", "_law_is_told", "_law_is_told", L2.defArgs (top 64), L2.defBody (top 64), L2.defScope (top 64), [], []⟩,
  ⟨fun K => He.ga K "_law_combines", "_law_combines", "_law_combines", L2.defArgs (top 65), L2.defBody (top 65), L2.defScope (top 65), [], []⟩,
  ⟨fun K => He.ga K "law", "law", "law", L2.defArgs (top 66), L2.defBody (top 66), L2.defScope (top 66), [], []⟩]
def fn2 : List He5.DefA := [
  ⟨fun K => He.ma K (He.ga K "Rule") "__init__", "__init__", "Rule.__init__", L2.defArgs (mem 29 1), L2.defBody (mem 29 1), L2.defScope (mem 29 1), [], []⟩,
  ⟨fun K => He5.wf K (He.ga K "Rule") "classmethod" "read", "read", "Rule.read", L2.defArgs (mem 29 2), L2.defBody (mem 29 2), L2.defScope (mem 29 2), [], []⟩,
  ⟨fun K => He5.wf K (He.ga K "Rule") "staticmethod" "full", "full", "Rule.full", L2.defArgs (mem 29 4), L2.defBody (mem 29 4), L2.defScope (mem 29 4), [], []⟩,
  ⟨fun K => He5.wf K (He.ga K "Rule") "property" "live", "live", "Rule.live", L2.defArgs (mem 29 5), L2.defBody (mem 29 5), L2.defScope (mem 29 5), [], []⟩,
  ⟨fun K => He.ma K (He.ga K "Rule") "__len__", "__len__", "Rule.__len__", L2.defArgs (mem 29 8), L2.defBody (mem 29 8), L2.defScope (mem 29 8), [], []⟩,
  ⟨fun K => He.ma K (He.ga K "Rule") "__iter__", "__iter__", "Rule.__iter__", L2.defArgs (mem 29 9), L2.defBody (mem 29 9), L2.defScope (mem 29 9), [], []⟩,
  ⟨fun K => He.ma K (He.ga K "Rule") "__setitem__", "__setitem__", "Rule.__setitem__", L2.defArgs (mem 29 13), L2.defBody (mem 29 13), L2.defScope (mem 29 13), [], []⟩,
  ⟨fun K => He.ma K (He.ga K "Rule") "__or__", "__or__", "Rule.__or__", L2.defArgs (mem 29 14), L2.defBody (mem 29 14), L2.defScope (mem 29 14), [], []⟩,
  ⟨fun K => He.ma K (He.ga K "Rule") "__ior__", "__ior__", "Rule.__ior__", L2.defArgs (mem 29 23), L2.defBody (mem 29 23), L2.defScope (mem 29 23), [], []⟩,
  ⟨fun K => He.ma K (He.ga K "Rule") "__le__", "__le__", "Rule.__le__", L2.defArgs (mem 29 26), L2.defBody (mem 29 26), L2.defScope (mem 29 26), [], []⟩,
  ⟨fun K => He.ma K (He.ga K "Promise") "__init__", "__init__", "Promise.__init__", L2.defArgs (mem 33 1), L2.defBody (mem 33 1), L2.defScope (mem 33 1), [], []⟩,
  ⟨fun K => He5.wf K (He.ga K "Promise") "property" "look", "look", "Promise.look", L2.defArgs (mem 33 3), L2.defBody (mem 33 3), L2.defScope (mem 33 3), [], []⟩,
  ⟨fun K => wfs K (He.ga K "Promise") "look", "look", "Promise.look", L2.defArgs (mem 33 4), L2.defBody (mem 33 4), L2.defScope (mem 33 4), [], []⟩,
  ⟨fun K => He5.wf K (He.ga K "Promise") "property" "reserved", "reserved", "Promise.reserved", L2.defArgs (mem 33 5), L2.defBody (mem 33 5), L2.defScope (mem 33 5), [], []⟩,
  ⟨fun K => wfs K (He.ga K "Promise") "reserved", "reserved", "Promise.reserved", L2.defArgs (mem 33 6), L2.defBody (mem 33 6), L2.defScope (mem 33 6), [], []⟩,
  ⟨fun K => He.ma K (He.ga K "Promise") "change", "change", "Promise.change", L2.defArgs (mem 33 7), L2.defBody (mem 33 7), L2.defScope (mem 33 7), [], []⟩,
  ⟨fun K => He.ma K (He.ga K "Promise") "__le__", "__le__", "Promise.__le__", L2.defArgs (mem 33 10), L2.defBody (mem 33 10), L2.defScope (mem 33 10), [], []⟩,
  ⟨fun K => He.ma K (He.ga K "Promise") "__or__", "__or__", "Promise.__or__", L2.defArgs (mem 33 11), L2.defBody (mem 33 11), L2.defScope (mem 33 11), [], []⟩,
  ⟨fun K => He.ma K (He.ga K "Promise") "__and__", "__and__", "Promise.__and__", L2.defArgs (mem 33 12), L2.defBody (mem 33 12), L2.defScope (mem 33 12), [], []⟩]
def fns : List He5.DefA := fn0 ++ (fn1 ++ (fn2))
def nmT : List PySem.Str := ["STANDINGS", "DEEDS", "STRONG", "RELATIONS", "MOVING", "INVERSES"]
def nmF0 : List PySem.Str := ["_wall", "inverse", "all_entries", "written_entries", "words_of", "expand", "words_of_entry", "is_live", "live_among", "in_order", "gathered_entries", "with_both", "entries_without", "shared_entries", "entries_of", "rule_lines", "checked_word", "all_promises", "can_move", "can_change", "harmful", "freest", "is_sound", "strongest"]
def nmF1 : List PySem.Str := ["_law_begin", "_law_draw", "_law_pick", "_law_same_row", "_law_same", "_law_standings", "_law_deeds", "_law_strong", "_law_relations", "_law_inverse", "_law_entries", "_law_harmful", "_law_live", "_law_some", "_law_few", "_law_grown", "_law_rule", "_law_drawn_entries", "_law_best", "_law_words_of", "_law_weaker", "_law_is_told", "_law_combines", "law"]
def nmF : List PySem.Str := nmF0 ++ (nmF1)
def nmR : List PySem.Str := ["__init__", "read", "full", "live", "__len__", "__iter__", "__setitem__", "__or__", "__ior__", "__le__"]
def nmP : List PySem.Str := ["__init__", "look", "reserved", "change", "__le__", "__or__", "__and__", "WORDS"]
def invK : List PySem.Str := ["same", "over", "overbox", "under", "underbox", "apart"]
abbrev AlK : Type := He.AlD × Option (List (Option (PySem.Str × Int)))
def obsK (K : Frag) : AlK := (((exs K).all (fun b => b) && fns.all (fun d => d.ok K), fns.map fun d => He5.fnA K (d.at_ K)), He.dicW K (He.ga K "INVERSES"))
def valK (w : World) : AlK := ((true, fns.map He5.DefA.val), some (He.keysIn w.params invK))
/-! the part of the heap that is looked at: by names -/
def adr (g : Addr → Option Obj) (a : Addr) (x : PySem.Str) : Addr := match nsIn (He.frG g [a]) a x with
  | some (some (.ref b)) => b
  | _ => 0
def nsOf (g : Addr → Option Obj) (C : Addr) : Addr := match g C with
  | some ⟨_, _, .cls cd, _⟩ => cd.ns
  | _ => 0
def inOf (g : Addr → Option Obj) (a : Addr) : List Addr := match g a with
  | some ⟨_, _, .func fd, _⟩ => He.refV fd.code
  | some ⟨_, _, .fields vs, _⟩ => vs.toList.flatMap He.refV
  | _ => []
def prt (g : Addr → Option Obj) (R Q : Addr) (fs ms ws : List Addr) : List Addr :=
  mainGlobals :: R :: nsOf g R :: Q :: nsOf g Q :: cStatics :: (ms ++ (ms.flatMap (inOf g) ++ ((ms.flatMap (inOf g)).flatMap (inOf g) ++ (ws ++ (fs ++ fs.flatMap (inOf g))))))
def asK (g : Addr → Option Obj) : List Addr := prt g (adr g mainGlobals "Rule") (adr g mainGlobals "Promise") (nmF.map (adr g mainGlobals))
  (nmR.map (adr g (nsOf g (adr g mainGlobals "Rule"))) ++ nmP.map (adr g (nsOf g (adr g mainGlobals "Promise")))) (nmT.map (adr g mainGlobals))
def obG (g : Addr → Option Obj) : AlK := obsK (He.frG g (asK g))
def hk : Hook where
  α := AlK
  obs := fun s => obG s.heap.get?
  val := valK
  says := fun w h => ∃ K : Frag, K.In h ∧ obsK K = valK w
  of := fun _ _ e => ⟨_, He.frG_in, e⟩
  keeps := fun _ _ _ ⟨K, hK, c⟩ k => ⟨K, Frag.In.keeps hK k, c⟩
def ob (s : SharedT) : AlK := obG (HandSHeadRun.getT s)
theorem ob_eq (s : SharedT) : ob s = hk.obs s.abs := by
  have e : HandSHeadRun.getT s = s.abs.heap.get? := funext (HandSHeadRun.getT_eq s)
  unfold ob
  rw [e] <;> rfl
end K79
/-! text H2 -/
set_option maxHeartbeats 4000000
/-! H2: the run of the top of k79 -/
namespace K79
open PySem PySem.W PySem.Calls PyProof.Rows
abbrev R : OpenRow := OpenLaw.row PySem.Challenge.rw_fieldsandcalls_k79_whole_strongest_promi
def lo0 : List PySem.Str := ["_wall", "LentError", "InvalidEntry", "InvalidRule", "InvalidPromise", "INVERSES", "inverse", "STANDINGS", "DEEDS", "STRONG", "RELATIONS", "all_entries", "written_entries", "words_of", "expand", "words_of_entry", "is_live", "live_among", "in_order", "gathered_entries"]
def lo1 : List PySem.Str := ["with_both", "entries_without", "shared_entries", "entries_of", "rule_lines", "Rule", "MOVING", "checked_word", "Promise", "all_promises", "can_move", "can_change", "harmful", "freest", "is_sound", "strongest", "_law_begin", "_law_draw", "_law_pick", "_law_same_row"]
def lo2 : List PySem.Str := ["_law_same", "_law_standings", "_law_deeds", "_law_strong", "_law_relations", "_law_inverse", "_law_entries", "_law_harmful", "_law_live", "_law_some", "_law_few", "_law_grown", "_law_rule", "_law_drawn_entries", "_law_best", "_law_words_of", "_law_weaker", "_law_is_told", "_law_combines"]
def loose : List PySem.Str := lo0 ++ (lo1 ++ (lo2))
abbrev steps : Nat := 6000
theorem run_f (w : World) : HandSHeadRun.RunEq R (view R.prog [66]) hk ob steps loose (w.withFollow "special-get-raises" false) := by
  intro os
  kernel_rfl
theorem run_t (w : World) : HandSHeadRun.RunEq R (view R.prog [66]) hk ob steps loose (w.withFollow "special-get-raises" true) := by
  intro os
  kernel_rfl
theorem run_at (b : Bool) (w : World) : HandSHeadRun.RunEq R (view R.prog [66]) hk ob steps loose (w.withFollow "special-get-raises" b) := by
  cases b
  · exact run_f w
  · exact run_t w
theorem run (w : World) : HandSHeadRun.RunEq R (view R.prog [66]) hk ob steps loose w := by
  have h := run_at (w.params.followText "special-get-raises") w
  rwa [World.withFollow_self] at h
end K79
/-! text Sw20 -/
set_option maxHeartbeats 4000000
/-! Sw20: name = {k: v for ..} on one line, the name a local. -/
namespace Sw
open PySem PySem.Spec PyProof.Rows L2
theorem sw_trueD {kx vx : Expr} {gs : List Comprehension} {scope : Scope} {pos py : Pos} {y : Str} {l : Nat} {env : Env} (hk : env.scope.kind = .function) (hy : env.scope.names.lookup y = some .local) (hl : (py.line == pos.line) = true)
    (ha : (scope.names.any fun (n, k) => n == y && (k == .local || k == .cell)) = false) : swapsWith (.DictComp kx vx gs scope pos) (some (.Name y py)) l env = pure true := by
  have ky : env.kindOf y = some .local := hy
  have hb : env.blockKind = .function := by unfold Env.blockKind; rw [hk]; rfl
  unfold swapsWith
  simp only [hb, ky, ha, Expr.pos, hl]
  rfl
theorem ps_setDc {X : Cx} {i : Nat} {y : Str} {py : Pos} {kx vx tg iter : Expr} {ifs : List Expr} {scope : Scope} {own : List (Str × Nat)} {pos spos : Pos} {wi : TI} {g : TG} {tt : TT} {tk tv : TE} (hc : X.calm = true) (hN : X.N.Nodup) (hy : X.N[i]? = some y) (hyl : X.env.scope.names.lookup y = some .local)
    (hsw : swapsWith (.DictComp kx vx [⟨tg, iter, ifs, 0⟩] scope pos) (some (.Name y py)) spos.line X.env = pure true) (hi : PI X tg iter wi) (ok : BlkOk X.N X.env.scope scope own)
    (hg : ∀ (s : Shared) (H : Hp) (C : Addr) (cl : List (Str × Addr)) (fp : List Addr), PG (X.blk s H scope (compEnvC scope cl C X.env) fp) tg g) (ht : ∀ (s : Shared) (H : Hp) (C : Addr) (cl : List (Str × Addr)) (fp : List Addr), PTs (X.blk s H scope (compEnvC scope cl C X.env) fp) ifs tt)
    (hk : ∀ (s : Shared) (H : Hp) (C : Addr) (cl : List (Str × Addr)) (fp : List Addr), PE (X.blk s H scope (compEnvC scope cl C X.env) fp) kx tk)
    (he : ∀ (s : Shared) (H : Hp) (C : Addr) (cl : List (Str × Addr)) (fp : List Addr), PE (X.blk s H scope (compEnvC scope cl C X.env) fp) vx tv) (hs : ∀ x, foldedSetIterable iter X.env x = pure x := by intro _; rfl) :
    PS X (.Assign [.Name y py] (.DictComp kx vx [⟨tg, iter, ifs, 0⟩] scope pos) spos) (tAsg (tDc wi g tt tk tv (own.map (·.2))) (gName i)) := by
  refine ⟨fun pins s σ H D I h => ?_⟩
  rw [exec_Assign_Name_used _ _ _ _ hsw]
  refine wpAny_bind (wpAny_standAt (wpAny_bind ?_))
  show wpAny _ X.A (do let _ ← comprehension (.DictComp kx vx [⟨tg, iter, ifs, 0⟩] scope pos) scope X.env (firstIterPos [⟨tg, iter, ifs, 0⟩] pos) newDict false (eval iter X.env) (some (assign (.Name y py) X.env))) _ _ s
  have h : tDc wi g tt tk tv (own.map (·.2)) σ H (fun x H1 => gName i x σ H1 D.nx) := h
  refine wpAny_bind (thn (dc_core (Qf := fun _ s' => SP X pins D .next s') hc hN I hi ok hg ht hk he hs h fun L C s' m H' I' q hn f => ?_) fun _ s' hq => wpAny_pure (wpAny_pure hq))
  show wpAny _ _ (assign (.Name y py) X.env (.ref L)) _ _ _
  refine wpAny_assign_Name (store_ok2 (v := V.ref L) I' hN hy (.inl hyl) rfl (fun s2 I2 ⟨a, sb, ha⟩ => ?_) (.inr hyl))
  obtain ⟨f0, f1, f2, f3, f4, f5⟩ := f
  have haC : C ≠ a := by
    rcases ha with z | z
    · rw [z]; exact f1
    · exact fun e => f4 y a z e.symm
  refine ⟨m, hn.sameBut sb haC, fun h3 sb3 => ?_⟩
  exact ⟨_, H', I2.turned (t' := s2.toks) (fun b o hb e => (sb3.2 b hb).trans e) f0 f1 f3 f4 f5, q⟩
end Sw
/-! text Sw21 -/
set_option maxHeartbeats 1000000
/-! Sw21: xs == [], C.m(..) of a classmethod. -/
namespace Sw
open PySem PySem.Spec PyProof.Rows L2
theorem op_in_K {X : Cx} {K : PySem.W.Frag} (h : X.K = K) : OpR X (compareOp .In) (rIn K false) := h ▸ op_in_seq
theorem op_notIn_K {X : Cx} {K : PySem.W.Frag} (h : X.K = K) : OpR X (compareOp .NotIn) (rIn K true) := h ▸ op_notIn_seq
theorem ix0 {α : Type} [Inhabited α] {a b c : α} : ixD [a, b, c] 0 = a := rfl
theorem ix1 {α : Type} [Inhabited α] {a b c : α} : ixD [a, b, c] 1 = b := rfl
theorem ix2 {α : Type} [Inhabited α] {a b c : α} : ixD [a, b, c] 2 = c := rfl
theorem ix_list_K {X : Cx} {K : PySem.W.Frag} (h : X.K = K) : IxR X (rIxL K) := h ▸ ix_list
theorem ix_tup_K {X : Cx} {K : PySem.W.Frag} (h : X.K = K) : IxR X (rIxT K) := h ▸ ix_tup
theorem hu64 {X : Cx} {j : Nat} (hr : Room j X.A) : X.A.units + 64 < cLine := Nat.lt_of_le_of_lt (by omega) hr.un
theorem dp_strs {K : PySem.W.Frag} {H : Hp} : ∀ xs : List Str, DpAll K H (xs.map V.str) (xs.map PyData.str)
  | [] => .nil
  | x :: xs => .cons (.str x) (dp_strs xs)
theorem sh_strs (xs : List Str) (h : ∀ x ∈ xs, PyData.canLay0 (.str x) = true) : SeqAt.shaped (.list (xs.map PyData.str)) = true := by
  have h1 : PyData.canLayAll0 (xs.map PyData.str) = true := by
    induction xs with
    | nil => rfl
    | cons x xs ih =>
      rw [List.map_cons, PyData.canLayAll0, h x List.mem_cons_self, ih fun y hy => h y (List.mem_cons_of_mem _ hy)]
      rfl
  have h2 : PyData.depthAll (xs.map PyData.str) = 0 := by
    clear h h1
    induction xs with
    | nil => rfl
    | cons x xs ih => rw [List.map_cons, PyData.depthAll, ih]; rfl
  unfold SeqAt.shaped
  have h3 : PyData.canLay0 (.list (xs.map PyData.str)) = true := by rw [PyData.canLay0]; exact h1
  have h4 : PyData.depth (.list (xs.map PyData.str)) = 1 := by rw [PyData.depth, h2]
  rw [h3, h4]
  rfl
section
variable {B : Bas} {ρ ρ1 ρ2 : List SV} {ta tb : TE} {K : PySem.W.Frag}
theorem ev_neE {xs : List Str} (hs : ∀ x ∈ xs, PyData.canLay0 (.str x) = true) (ha : EvE B ρ ta (dat (tList tStr) xs) ρ1) (hb : EvE B ρ1 tb (dat (tList tStr) []) ρ2) : EvE B ρ (tOp (rNeD K) ta tb) (dat tBl (!xs.isEmpty)) ρ2 :=
  ev_op ha hb fun H x y L Q c q => by
    obtain ⟨F, y', x', m, e1, e2, ⟨p, vs, e3, hp, hr⟩, ⟨p2, vs2, e4, hp2, hr2⟩⟩ := c.d2
    cases e1; cases e2; subst e3; subst e4
    have h1 := pair_str hr
    have h2 := pair_str hr2
    subst h1 h2
    refine ⟨.list (xs.map PyData.str), .list [], .lst (.inl (.inl (m _ _ hp2))) (dp_strs xs), .lst (.inl (.inl (m _ _ hp))) .nil, sh_strs xs hs, sh_strs [] (fun _ h => nomatch h), ?_⟩
    have e : PyData.eqv (.list (xs.map PyData.str)) (.list []) = xs.isEmpty := by
      cases xs with
      | nil => simp [PyData.eqv, PyData.eqvAll]
      | cons _ _ => simp [PyData.eqv, PyData.eqvAll]
    rw [e]
    exact q _ _ (c.cut2.sc sc_bl)
theorem ev_joinO {m : Nat} {x0 : V} {s : Str} {xs : List Str} {r : V → List V → Hp → VK → Prop} (hr : r = fun x xs H Q => ∃ a p, ∃ ys : List Str, x = .str a ∧ xs = [.ref p] ∧ (SqL K H p (ys.map V.str) ∨ SqT K H p (ys.map V.str)) ∧ (ys.map (·.length)).sum + ys.length * a.length ≤ 16777216 ∧ Q (.str (Txt.join a ys)) H)
    (ha : EvE B ρ ta (dat tStr s) ρ1) (hb : EvE B ρ1 tb (isv x0) ρ2) (hm : ρ2[m]? = some (own x0 (oList tStr) xs)) (hz : (xs.map (·.length)).sum + xs.length * s.length ≤ 16777216) : EvE B ρ (tM1 r ta tb) (dat tStr (Txt.join s xs)) ρ2 := fun H σ τ Q st q =>
  ha H σ τ _ st fun x H1 st1 => by
    obtain ⟨F, x', _, e1, e2⟩ := st1.core.d1
    cases e1; cases e2
    refine ⟨⟨s, rfl⟩, hb H1 σ _ _ st1 fun y H2 st2 => ?_⟩
    have ex := st2.core.i1
    cases ex
    obtain ⟨F, fs, fp, c, p, vs, f1, f2, f3, f4⟩ := own_at st2.cut.len hm st2.cut.core
    have ev := pair_str f4
    subst ev
    subst hr
    exact ⟨s, p, xs, rfl, f1 ▸ rfl, .inl (.inl (.inl f3)), hz, q _ H2 ⟨st2.len, st2.cut.cut.core.sc sc_str⟩⟩
/-- C.m(..) of a classmethod -/
theorem ev_cm {C : Addr} {sp : Sp} {t : TA} {R : SV} (h : EvE B ρ (tCl sp (tCons (tC (.ref C)) t)) R ρ1) : EvE B ρ (ClX.tCMeth C sp E0 (tC (.ref C)) t) R ρ1 := fun H σ τ Q st q => ⟨rfl, h H σ τ Q st q⟩
end
section
variable {X : Cx} {j k : Nat} {C : Addr} {m : Str} {sp : Sp} {o e : Expr} {es : List Expr} {ta : TE} {t : TA} {pos apos : Pos} {pl : Sem Bool}
theorem pe_cln (S : Cln X.prog X.w X.K X.mg X.base k C m sp) (hr : Room j X.A) (hk : k ≤ j) (he : PE X o ta) (ha : PA X (e :: es) t)
    (hst : starEach (e :: es) X.env = (false, eval e X.env) :: starEach es X.env := by rfl) (hpl : (backTo pos (starEach es X.env)).any (·.1) = false := by rfl)
    (ht : eval (.Call (.Attribute o m apos) (e :: es) [] pos) X.env = (do
      let ov ← eval o X.env
      standAt apos.atName
      let (f, first) ← holding [ov] (getMethod ov m pl)
      callWith pos f first (backTo pos (starEach (e :: es) X.env)) (backToKw pos (keywordEach [] X.env))) := by rfl) : PE X (.Call (.Attribute o m apos) (e :: es) [] pos) (ClX.tCMeth C sp E0 ta t) := by
  obtain ⟨p, f, h1, h2⟩ := S.ex
  exact ClX.pe_cmeth he S.rd h2 h1 (hr.mono hk) pass0 ha hst hpl ht
end
end Sw
/-! text Kf -/
/-! Kf: the finite table of entries. -/
namespace K79
open PySem PySem.Spec PyProof.Rows L2 Sw
def allE : List Str := c_STANDINGS.flatMap fun s => c_DEEDS.flatMap fun d => c_RELATIONS.map fun r => s ++ (" " : Str) ++ d ++ (" " : Str) ++ r
abbrev w0 (e : Str) : Str := ixD (Txt.split e " ") 0
abbrev w1 (e : Str) : Str := ixD (Txt.split e " ") 1
abbrev w2 (e : Str) : Str := ixD (Txt.split e " ") 2
theorem allE_len : allE.length = 105 := by decide +kernel
theorem allE_nd : allE.Nodup := by decide +kernel
theorem e_facts : ∀ e ∈ allE, Txt.split e " " = [w0 e, w1 e, w2 e] ∧ w0 e ∈ c_STANDINGS ∧ w1 e ∈ c_DEEDS ∧ w2 e ∈ c_RELATIONS ∧ e.length ≤ 30 := by decide +kernel
theorem l_st : ∀ s ∈ c_STANDINGS, s.length ≤ 10 := by decide +kernel
theorem l_de : ∀ s ∈ c_DEEDS, s.length ≤ 10 := by decide +kernel
theorem l_re : ∀ s ∈ c_RELATIONS, s.length ≤ 10 := by decide +kernel
theorem l_sp : (" " : Str).length = 1 := by decide +kernel
theorem l_emp : Str.empty.length = 0 := by decide +kernel
theorem l_rs : (" reserve " : Str).length = 9 := by decide +kernel
theorem l_rl : ("reserved lend " : Str).length = 14 := by decide +kernel
theorem l_rd : ("reserved " : Str).length = 9 := by decide +kernel
end K79
/-! text D0 -/
set_option maxHeartbeats 4000000
/-! D0: inverse, written_entries, side goals. -/
namespace K79
open PySem PySem.Spec PyProof.Rows L2 Sw
theorem l_sg : ∀ s ∈ c_STRONG, s.length ≤ 10 := by decide +kernel
theorem c_inv_all : ∀ p ∈ c_INVERSES, c_INVERSES.lookup p.1 = some p.2 ∧ p.2.length ≤ 10 := by decide +kernel
theorem rel_inv : ∀ r ∈ c_RELATIONS, ∃ p ∈ c_INVERSES, p.1 = r := by decide +kernel
section
variable {P : Program} {w : World} {K : PySem.W.Frag} {mg : Str → Option Value} {base : Heap}
theorem pe_kd {X : Cx} {d : Addr} {es : Array DictEntry} {n : Nat} {o i : Expr} {td ty : TE} {pos : Pos} (D : KDict X.K X.w d es n) (ho : PE X o td) (hi : PE X i ty) (hs : NoSl i) : PE X (.Subscript o i pos)
    (tOp (fun x y H Q => ∃ (z : Str) (u0 : Value) (v0 : V), x = .ref d ∧ y = .str z ∧ PySem.W.nsIn X.K d z = some (some u0) ∧ RelV v0 u0 ∧ Q v0 H) td ty) := by
  refine ⟨fun pins s σ H Q I h => ?_⟩
  refine subD_of PySem.F.slot_dict_getitem.lookup hs (thn (ho.run pins s σ H _ I h) fun u s1 ⟨x, H1, I1, rx, q1⟩ => thn (hi.run pins s1 σ H1 _ I1 q1) fun iv s2 ⟨y, H2, I2, ry, q⟩ => ?_)
  obtain ⟨z, u0, v0, ex, q2⟩ := id q
  have eu : u = Value.ref d := by rw [ex] at rx; exact rx
  rw [eu]
  refine ⟨kd_type D I2, op_item_kd D pins s2 σ H2 x y _ _ Q I2 (by rw [ex]; rfl) ry q⟩
/-! inverse -/
abbrev s_inverse : Stmt := top 8
abbrev N_inverse : List Str := ["word"]
theorem sc_inverse : FnScope N_inverse ["word"] (defScope s_inverse) := ⟨rfl, rfl, rfl, by decide +kernel, rfl, by decide +kernel, by decide +kernel⟩
def m_inverse (word : Str) : Str := (c_INVERSES.lookup word).getD ""
abbrev in_inverse {w : World} (K : PySem.W.Frag) {mg : Str → Option Value} (T : Tx w K mg) (a : Str) : List SV := [(dat tStr a)]
theorem fr_inverse {w : World} {K : PySem.W.Frag} {mg : Str → Option Value} {T : Tx w K mg} (a : Str) : ∀ s ∈ in_inverse K T a, Fr s := (fr_cons fr_dat fr_nil)
abbrev pre_inverse (a : Str) : Prop := ∃ p ∈ c_INVERSES, p.1 = a
abbrev sp_inverse {w : World} (K : PySem.W.Frag) {mg : Str → Option Value} (T : Tx w K mg) : Sp := spF (A := Str) (fun a => pre_inverse a) (fun a => in_inverse K T a) (fun a => (dat tStr (m_inverse a)))
theorem g_inverse (T : Tx w K mg) : Gn P w K mg base 1 "inverse" (sp_inverse K T) := by
  have nd := sc_inverse.nd
  obtain ⟨es, n, D⟩ := T.kd_INV
  refine gn_of T.d_inverse sc_inverse (lenF fun _ => rfl) (fun _ _ _ _ _ _ us hl => match us, hl with | [_], _ => rfl) (fun f cdv A outer s H vs Q E hr h => ⟨_, (pss_one (ps_ret (pe_kd D (pe_gc rfl T.g_INV) (pv 0) (fun _ _ => rfl)))), body_F h fun word B hp => ?_⟩)
  obtain ⟨p, hp, hw⟩ := hp
  subst hw
  obtain ⟨e1, e2⟩ := c_inv_all p hp
  refine ex_ret (ev_kd rfl ev_isv (ev_var rfl) (T.kv_INV p hp)) ?_
  exact (congrArg (fun z => (dat tStr z)) (show p.2 = m_inverse p.1 from by unfold m_inverse; rw [e1]; rfl))
theorem lookup_mem' {x y : Str} : ∀ {l : List (Str × Str)}, l.lookup x = some y → (x, y) ∈ l
  | [], h => by cases h
  | (a, b) :: r, h => by
    rw [List.lookup_cons] at h
    cases e : x == a with
    | true => rw [e] at h; cases h; rw [beq_iff_eq.mp e]; exact List.mem_cons_self
    | false => rw [e] at h; exact List.mem_cons_of_mem _ (lookup_mem' h)
theorem l_inv (word : Str) : (m_inverse word).length ≤ 10 := by
  unfold m_inverse
  cases e : c_INVERSES.lookup word with
  | none => decide +kernel
  | some y => exact (c_inv_all _ (lookup_mem' e)).2
/-! written_entries, of lists and of tuples -/
abbrev s_written : Stmt := top 15
abbrev N_written : List Str := ["standings", "deeds", "relations", "standing", "deed", "word"]
theorem sc_written : FnScope N_written ["standings", "deeds", "relations"] (defScope s_written) := ⟨rfl, rfl, rfl, by decide +kernel, rfl, by decide +kernel, by decide +kernel⟩
def ent (x y z : Str) : Str := ((((Str.empty ++ x) ++ (" " : Str)) ++ y) ++ (" " : Str)) ++ z
def m_written (a b c : List Str) : List Str := a.flatMap fun x => b.flatMap fun y => c.map fun z => ent x y z
abbrev pre_written (a : List Str × List Str × List Str) : Prop := a.1.length ≤ 100 ∧ (∀ s ∈ a.1, s.length ≤ 100) ∧ a.2.1.length ≤ 100 ∧ (∀ s ∈ a.2.1, s.length ≤ 100) ∧ a.2.2.length ≤ 100 ∧ (∀ s ∈ a.2.2, s.length ≤ 100)
theorem flat_len {α β : Type} {n : Nat} {f : α → List β} : ∀ {xs : List α}, (∀ x ∈ xs, (f x).length ≤ n) → (xs.flatMap f).length ≤ xs.length * n
  | [], _ => by simp
  | x :: xs, h => by
    have h1 := h x List.mem_cons_self
    have h2 := flat_len (xs := xs) fun y hy => h y (List.mem_cons_of_mem _ hy)
    rw [List.flatMap_cons, List.length_append, List.length_cons, Nat.add_mul]
    omega
theorem m_written_len {a b c : List Str} (ha : a.length ≤ 100) (hb : b.length ≤ 100) (hc : c.length ≤ 100) : (m_written a b c).length ≤ 1000000 := by
  have h1 : ∀ x ∈ a, (b.flatMap fun y => c.map fun z => ent x y z).length ≤ 10000 := fun x _ => by
    have := flat_len (n := 100) (f := fun y => c.map fun z => ent x y z) (xs := b) fun y _ => by rw [List.length_map]; exact hc
    omega
  have h2 := flat_len h1
  unfold m_written
  omega
local macro_rules | `(tactic| walk_at "side") => `(tactic| ((try simp only [Str.length_append, l_sp, l_emp, l_rs, l_rl, l_rd, sizeLine_eq] at *) <;> first | trivial | omega))
abbrev in_writtenT {w : World} (K : PySem.W.Frag) {mg : Str → Option Value} (T : Tx w K mg) (a : List Str × List Str × List Str) : List SV := [dat (tTupL K tStr) a.1, dat (tTupL K tStr) a.2.1, dat (tTupL K tStr) a.2.2]
theorem fr_writtenT {w : World} {K : PySem.W.Frag} {mg : Str → Option Value} {T : Tx w K mg} (a : List Str × List Str × List Str) : ∀ s ∈ in_writtenT K T a, Fr s := (fr_cons fr_dat (fr_cons fr_dat (fr_cons fr_dat fr_nil)))
abbrev sp_writtenT {w : World} (K : PySem.W.Frag) {mg : Str → Option Value} (T : Tx w K mg) : Sp := spF (A := List Str × List Str × List Str) (fun a => pre_written a) (fun a => in_writtenT K T a) (fun a => (fre (oList tStr) (m_written a.1 a.2.1 a.2.2)))
theorem g_writtenT (T : Tx w K mg) : Gn P w K mg base 1 "written_entries" (sp_writtenT K T) := by
  have nd := sc_written.nd
  refine gn_of T.d_written_entries sc_written (lenF fun _ => rfl) (fun _ _ _ _ _ _ us hl => match us, hl with | [_, _, _], _ => rfl) (fun f cdv A outer s H vs Q E hr h => ⟨_, (pss_one (ps_ret (pe_lc3 (own := [("standing", 3), ("deed", 4), ("word", 5)]) (vs1 := [4, 5]) (vs2 := [5]) (wi1 := iTup K (tVar 1)) (wi2 := iTup K (tVar 2)) (g := gName 3) (g1 := gName 4) (g2 := gName 5) (by rfl) nd (pi_tup (pv 0)) (blkOk_by (N := N_written) (sc := defScope s_written) (by decide +kernel)) (by decide) (by decide)
    (fun _ _ _ _ _ => pg_name (i := 3) nd rfl (Or.inl rfl)) (fun _ _ _ _ _ => pi_tup (pv 1)) (fun _ _ _ _ _ => pg_name (i := 4) nd rfl (Or.inl rfl)) (fun _ _ _ _ _ => pi_tup (pv 2)) (fun _ _ _ _ _ => pg_name (i := 5) nd rfl (Or.inl rfl))
    (fun _ _ _ _ _ => (pe_joined (PJ.cons (pe_fmt (pv 3)) (PJ.cons pe_str (PJ.cons (pe_fmt (pv 4)) (PJ.cons pe_str (PJ.cons (pe_fmt (pv 5)) PJ.nil)))))))))), body_F h fun a B hp => ?_⟩)
  obtain ⟨sa, sb, sc⟩ := a
  obtain ⟨p1, p2, p3, p4, p5, p6⟩ := hp
  refine ex_ret (fr_lc3 (T := tStr) (W := tStr) (Y := tStr) (U := tStr) (xs := sa) (ys := sb) (zs := sc) (g := ent) rfl rfl rfl (by decide) (by decide) (by decide) (evi_tup (ev_var rfl)) (fun x hx => evi_tup (ev_var rfl)) (fun x hx y hy => evi_tup (ev_var rfl)) (fun x hx y hy z hz => ?_) ?_) ?_
  · have z1 := p2 x hx
    have z2 := p4 y hy
    have z3 := p6 z hz
    exact ev_joined (ej_cons (ev_fmt (ev_var rfl) (by walk_at "side")) (by walk_at "side") (ej_cons ev_str (by walk_at "side") (ej_cons (ev_fmt (ev_var rfl) (by walk_at "side")) (by walk_at "side") (ej_cons ev_str (by walk_at "side") (ej_cons (ev_fmt (ev_var rfl) (by walk_at "side")) (by walk_at "side") ej_nil)))))
  · refine Nat.lt_of_le_of_lt (m_written_len p1 p3 p5) (by rw [sizeLine_eq]; decide)
  · rfl
abbrev in_writtenL {w : World} (K : PySem.W.Frag) {mg : Str → Option Value} (T : Tx w K mg) (a : List Str × List Str × List Str) : List SV := [dat (tList tStr) a.1, dat (tList tStr) a.2.1, dat (tList tStr) a.2.2]
theorem fr_writtenL {w : World} {K : PySem.W.Frag} {mg : Str → Option Value} {T : Tx w K mg} (a : List Str × List Str × List Str) : ∀ s ∈ in_writtenL K T a, Fr s := (fr_cons fr_dat (fr_cons fr_dat (fr_cons fr_dat fr_nil)))
abbrev sp_writtenL {w : World} (K : PySem.W.Frag) {mg : Str → Option Value} (T : Tx w K mg) : Sp := spF (A := List Str × List Str × List Str) (fun a => pre_written a) (fun a => in_writtenL K T a) (fun a => (fre (oList tStr) (m_written a.1 a.2.1 a.2.2)))
theorem g_writtenL (T : Tx w K mg) : Gn P w K mg base 1 "written_entries" (sp_writtenL K T) := by
  have nd := sc_written.nd
  refine gn_of T.d_written_entries sc_written (lenF fun _ => rfl) (fun _ _ _ _ _ _ us hl => match us, hl with | [_, _, _], _ => rfl) (fun f cdv A outer s H vs Q E hr h => ⟨_, (pss_one (ps_ret (pe_lc3 (own := [("standing", 3), ("deed", 4), ("word", 5)]) (vs1 := [4, 5]) (vs2 := [5]) (wi1 := iList K (tVar 1)) (wi2 := iList K (tVar 2)) (g := gName 3) (g1 := gName 4) (g2 := gName 5) (by rfl) nd (pi_list (pv 0)) (blkOk_by (N := N_written) (sc := defScope s_written) (by decide +kernel)) (by decide) (by decide)
    (fun _ _ _ _ _ => pg_name (i := 3) nd rfl (Or.inl rfl)) (fun _ _ _ _ _ => pi_list (pv 1)) (fun _ _ _ _ _ => pg_name (i := 4) nd rfl (Or.inl rfl)) (fun _ _ _ _ _ => pi_list (pv 2)) (fun _ _ _ _ _ => pg_name (i := 5) nd rfl (Or.inl rfl))
    (fun _ _ _ _ _ => (pe_joined (PJ.cons (pe_fmt (pv 3)) (PJ.cons pe_str (PJ.cons (pe_fmt (pv 4)) (PJ.cons pe_str (PJ.cons (pe_fmt (pv 5)) PJ.nil)))))))))), body_F h fun a B hp => ?_⟩)
  obtain ⟨sa, sb, sc⟩ := a
  obtain ⟨p1, p2, p3, p4, p5, p6⟩ := hp
  refine ex_ret (fr_lc3 (T := tStr) (W := tStr) (Y := tStr) (U := tStr) (xs := sa) (ys := sb) (zs := sc) (g := ent) rfl rfl rfl (by decide) (by decide) (by decide) (evi_list (EvE.row (K := K) (ev_var rfl))) (fun x hx => evi_list (EvE.row (K := K) (ev_var rfl))) (fun x hx y hy => evi_list (EvE.row (K := K) (ev_var rfl))) (fun x hx y hy z hz => ?_) ?_) ?_
  · have z1 := p2 x hx
    have z2 := p4 y hy
    have z3 := p6 z hz
    exact ev_joined (ej_cons (ev_fmt (ev_var rfl) (by walk_at "side")) (by walk_at "side") (ej_cons ev_str (by walk_at "side") (ej_cons (ev_fmt (ev_var rfl) (by walk_at "side")) (by walk_at "side") (ej_cons ev_str (by walk_at "side") (ej_cons (ev_fmt (ev_var rfl) (by walk_at "side")) (by walk_at "side") ej_nil)))))
  · refine Nat.lt_of_le_of_lt (m_written_len p1 p3 p5) (by rw [sizeLine_eq]; decide)
  · rfl
end
end K79
/-! text D1 -/
set_option maxHeartbeats 1000000
namespace K79
open PySem PySem.Spec PyProof.Rows L2 Sw
local macro_rules | `(tactic| walk_at "side") => `(tactic| first | omega | with_reducible assumption | with_reducible exact True.intro | (simp only [Str.length_append, l_sp, l_emp, l_rs, l_rl, l_rd, sizeLine_eq, List.length_map, List.length_cons, List.length_nil, List.length_append]; first | omega | with_reducible assumption | (have z1 := l_sg _ ‹_ ∈ c_STRONG›; omega)) | (simp only [l_all]; omega) | (rw [‹Txt.split _ _ = _›]; exact rfl) | assumption | decide)
section
variable {P : Program} {w : World} {K : PySem.W.Frag} {mg : Str → Option Value} {base : Heap}
/-! can_move -/
abbrev s_can_move : Stmt := top 35
abbrev N_can_move : List Str := ["deed", "word"]
theorem sc_can_move : FnScope N_can_move ["deed", "word"] (defScope s_can_move) := ⟨rfl, rfl, rfl, by decide +kernel, rfl, by decide +kernel, by decide +kernel⟩
def m_can_move (deed : Str) (word : Str) : Bool := ((decide (deed ∈ c_MOVING)) && (decide (word = ("overbox" : Str))))
abbrev in_can_move {w : World} (K : PySem.W.Frag) {mg : Str → Option Value} (T : Tx w K mg) (a : Str × Str) : List SV := [(dat tStr a.1), (dat tStr a.2)]
theorem fr_can_move {w : World} {K : PySem.W.Frag} {mg : Str → Option Value} {T : Tx w K mg} (a : Str × Str) : ∀ s ∈ in_can_move K T a, Fr s := (fr_cons fr_dat (fr_cons fr_dat fr_nil))
abbrev pre_can_move (a : Str × Str) : Prop := True
abbrev sp_can_move {w : World} (K : PySem.W.Frag) {mg : Str → Option Value} (T : Tx w K mg) : Sp := spF (A := Str × Str) (fun a => pre_can_move a) (fun a => in_can_move K T a) (fun a => (dat tBl (m_can_move a.1 a.2)))
theorem cl_can_move {T : Tx w K mg} {B : Bas} {ρ ρ1 : List SV} {as : TA} (a : Str × Str) (h : EvA B ρ as (in_can_move K T a) ρ1) (hp : pre_can_move a) : EvE B ρ (tCl (sp_can_move K T) as) (dat tBl (m_can_move a.1 a.2)) ρ1 := ev_call (pre := fun a => pre_can_move a) (ins := fun a => in_can_move K T a) (res := fun a => (dat tBl (m_can_move a.1 a.2))) a h hp (fr_can_move a)
theorem g_can_move (T : Tx w K mg) : Gn P w K mg base 1 "can_move" (sp_can_move K T) := by
  have nd := sc_can_move.nd
  refine gn_of T.d_can_move sc_can_move (lenF fun _ => rfl) (fun _ _ _ _ _ _ us hl => match us, hl with | [_, _], _ => rfl) (fun f cdv A outer s H vs Q E hr h => ⟨_, (pss_one (ps_ret (pe_and (pe_cmpR (op_in_K (K := K) rfl) (pv 0) (pe_gc rfl T.g_MOVING) (by with_unfolding_all rfl)) (pe_one (pe_cmpR op_eq (pv 1) pe_str (nomark _)))))), body_F h fun a B hp => ?_⟩)
  obtain ⟨deed, word⟩ := a
  refine ex_ret (ev_and (ev_isT (ev_var rfl) (ev_sc T.v_MOVING)) (fun _ => (ev_eqS (ev_var rfl) ev_str))) ?_
  exact (congrArg (fun z => (dat tBl z)) (show ((decide (deed ∈ c_MOVING)) && (decide (word = ("overbox" : Str)))) = m_can_move deed word from rfl))
/-! can_change -/
abbrev s_can_change : Stmt := top 36
abbrev N_can_change : List Str := ["standing", "deed", "word"]
theorem sc_can_change : FnScope N_can_change ["standing", "deed", "word"] (defScope s_can_change) := ⟨rfl, rfl, rfl, by decide +kernel, rfl, by decide +kernel, by decide +kernel⟩
def m_can_change (standing : Str) (deed : Str) (word : Str) : Bool := (if (decide (deed = ("mark" : Str))) = true then ((decide (word = ("same" : Str))) || ((!decide (standing = ("peek" : Str))) && (decide (word ∈ ([("under" : Str), ("underbox" : Str)] : List Str))))) else (if (decide (deed ∈ ([("fill" : Str), ("work" : Str)] : List Str))) = true then ((!decide (standing = ("peek" : Str))) || (decide (word ∈ ([("same" : Str), ("over" : Str), ("overbox" : Str)] : List Str)))) else false))
abbrev in_can_change {w : World} (K : PySem.W.Frag) {mg : Str → Option Value} (T : Tx w K mg) (a : Str × Str × Str) : List SV := [(dat tStr a.1), (dat tStr a.2.1), (dat tStr a.2.2)]
theorem fr_can_change {w : World} {K : PySem.W.Frag} {mg : Str → Option Value} {T : Tx w K mg} (a : Str × Str × Str) : ∀ s ∈ in_can_change K T a, Fr s := (fr_cons fr_dat (fr_cons fr_dat (fr_cons fr_dat fr_nil)))
abbrev pre_can_change (a : Str × Str × Str) : Prop := True
abbrev sp_can_change {w : World} (K : PySem.W.Frag) {mg : Str → Option Value} (T : Tx w K mg) : Sp := spF (A := Str × Str × Str) (fun a => pre_can_change a) (fun a => in_can_change K T a) (fun a => (dat tBl (m_can_change a.1 a.2.1 a.2.2)))
theorem cl_can_change {T : Tx w K mg} {B : Bas} {ρ ρ1 : List SV} {as : TA} (a : Str × Str × Str) (h : EvA B ρ as (in_can_change K T a) ρ1) (hp : pre_can_change a) : EvE B ρ (tCl (sp_can_change K T) as) (dat tBl (m_can_change a.1 a.2.1 a.2.2)) ρ1 := ev_call (pre := fun a => pre_can_change a) (ins := fun a => in_can_change K T a) (res := fun a => (dat tBl (m_can_change a.1 a.2.1 a.2.2))) a h hp (fr_can_change a)
theorem g_can_change (T : Tx w K mg) : Gn P w K mg base 1 "can_change" (sp_can_change K T) := by
  have nd := sc_can_change.nd
  refine gn_of T.d_can_change sc_can_change (lenF fun _ => rfl) (fun _ _ _ _ _ _ us hl => match us, hl with | [_, _, _], _ => rfl) (fun f cdv A outer s H vs Q E hr h => ⟨_, (pss_cons (ps_if (pt_cmpR op_eq (pv 1) pe_str (nomark _)) (pss_one (ps_ret (pe_or (pe_cmpR op_eq (pv 2) pe_str (nomark _)) (pe_one (pe_and (pe_cmpR op_ne (pv 0) pe_str (nomark _)) (pe_one (pe_cmpR (op_in_K (K := K) rfl) (pv 2) (pe_tup (pa_cons pe_str (pa_cons pe_str pa_nil))) (by with_unfolding_all rfl)))))))) pss_nil) (pss_cons (ps_if (pt_cmpR (op_in_K (K := K) rfl) (pv 1) (pe_tup (pa_cons pe_str (pa_cons pe_str pa_nil))) (by with_unfolding_all rfl)) (pss_one (ps_ret (pe_or (pe_cmpR op_ne (pv 0) pe_str (nomark _)) (pe_one (pe_cmpR (op_in_K (K := K) rfl) (pv 2) (pe_tup (pa_cons pe_str (pa_cons pe_str (pa_cons pe_str pa_nil)))) (by with_unfolding_all rfl)))))) pss_nil) (pss_one (ps_ret pe_bl)))), body_F h fun a B hp => ?_⟩)
  obtain ⟨standing, deed, word⟩ := a
  refine ex_seq (ex_if (et_test (ev_eqS (ev_var rfl) ev_str)) (fun h1 => ?_) (fun h1 => ?_))
  · refine ex_ret (ev_or (ev_eqS (ev_var rfl) ev_str) (fun _ => (ev_and (ev_neS (ev_var rfl) ev_str) (fun _ => (ev_isT (ev_var rfl) (ev_tupL (K := K) (T := tStr) (xs := ([("under" : Str), ("underbox" : Str)] : List Str)) (ea_cons ev_str (ea_cons ev_str ea_nil)) (by show 2 ≤ sizeLine; decide))))))) ?_
    exact (congrArg (fun z => (dat tBl z)) (show ((decide (word = ("same" : Str))) || ((!decide (standing = ("peek" : Str))) && (decide (word ∈ ([("under" : Str), ("underbox" : Str)] : List Str))))) = m_can_change standing deed word from by unfold m_can_change; rw [if_pos h1]))
  · refine ex_next ?_
    refine ex_seq (ex_if (et_test (ev_isT (ev_var rfl) (ev_tupL (K := K) (T := tStr) (xs := ([("fill" : Str), ("work" : Str)] : List Str)) (ea_cons ev_str (ea_cons ev_str ea_nil)) (by show 2 ≤ sizeLine; decide)))) (fun h2 => ?_) (fun h2 => ?_))
    · refine ex_ret (ev_or (ev_neS (ev_var rfl) ev_str) (fun _ => (ev_isT (ev_var rfl) (ev_tupL (K := K) (T := tStr) (xs := ([("same" : Str), ("over" : Str), ("overbox" : Str)] : List Str)) (ea_cons ev_str (ea_cons ev_str (ea_cons ev_str ea_nil))) (by show 3 ≤ sizeLine; decide))))) ?_
      exact (congrArg (fun z => (dat tBl z)) (show ((!decide (standing = ("peek" : Str))) || (decide (word ∈ ([("same" : Str), ("over" : Str), ("overbox" : Str)] : List Str)))) = m_can_change standing deed word from by unfold m_can_change; rw [if_neg (nt h1), if_pos h2]))
    · refine ex_next ?_
      refine ex_ret ev_bl ?_
      exact (congrArg (fun z => (dat tBl z)) (show false = m_can_change standing deed word from by unfold m_can_change; rw [if_neg (nt h1), if_neg (nt h2)]))
/-! entries_without -/
abbrev s_entries_without : Stmt := top 25
abbrev N_entries_without : List Str := ["first", "second", "dropped", "entry"]
theorem sc_entries_without : FnScope N_entries_without ["first", "second"] (defScope s_entries_without) := ⟨rfl, rfl, rfl, by decide +kernel, rfl, by decide +kernel, by decide +kernel⟩
def m_entries_without (first : (List Str)) (second : (List Str)) : (List Str) := ((first.filter (fun entry => (!(dHas (accD (fun _ => true) (fun entry => entry) (fun entry => true) second) entry)))).map (fun entry => entry))
abbrev in_entries_without {w : World} (K : PySem.W.Frag) {mg : Str → Option Value} (T : Tx w K mg) (a : (List Str) × (List Str)) : List SV := [(dat (tList tStr) a.1), (dat (tList tStr) a.2)]
theorem fr_entries_without {w : World} {K : PySem.W.Frag} {mg : Str → Option Value} {T : Tx w K mg} (a : (List Str) × (List Str)) : ∀ s ∈ in_entries_without K T a, Fr s := (fr_cons fr_dat (fr_cons fr_dat fr_nil))
abbrev pre_entries_without (a : (List Str) × (List Str)) : Prop := a.1.length ≤ 100000 ∧ a.2.length ≤ 100000
abbrev sp_entries_without {w : World} (K : PySem.W.Frag) {mg : Str → Option Value} (T : Tx w K mg) : Sp := spF (A := (List Str) × (List Str)) (fun a => pre_entries_without a) (fun a => in_entries_without K T a) (fun a => (fre (oList tStr) (m_entries_without a.1 a.2)))
theorem cl_entries_without {T : Tx w K mg} {B : Bas} {ρ ρ1 : List SV} {as : TA} (a : (List Str) × (List Str)) (h : EvA B ρ as (in_entries_without K T a) ρ1) (hp : pre_entries_without a) : EvE B ρ (tCl (sp_entries_without K T) as) (fre (oList tStr) (m_entries_without a.1 a.2)) ρ1 := ev_call (pre := fun a => pre_entries_without a) (ins := fun a => in_entries_without K T a) (res := fun a => (fre (oList tStr) (m_entries_without a.1 a.2))) a h hp (fr_entries_without a)
theorem g_entries_without (T : Tx w K mg) : Gn P w K mg base 1 "entries_without" (sp_entries_without K T) := by
  have nd := sc_entries_without.nd
  refine gn_of T.d_entries_without sc_entries_without (lenF fun _ => rfl) (fun _ _ _ _ _ _ us hl => match us, hl with | [_, _], _ => rfl) (fun f cdv A outer s H vs Q E hr h => ⟨_, (pss_cons (ps_set (i := 2) nd rfl (by first | exact Or.inl rfl | exact Or.inr rfl) (pe_dc (own := [("entry", 3)]) (g := gName 3) (tt := tYes) (by rfl) nd (pi_list (pv 1)) (blkOk_by (own := [("entry", 3)]) (N := N_entries_without) (sc := defScope s_entries_without) (by decide +kernel)) (fun _ _ _ _ _ => pg_name (i := 3) nd rfl (Or.inl rfl)) (fun _ _ _ _ _ => pts_nil) (fun _ _ _ _ _ => (pv 3)) (fun _ _ _ _ _ => pe_bl))) (pss_one (ps_ret (pe_lc (own := [("entry", 3)]) (g := gName 3) (by rfl) nd (pi_list (pv 0)) (blkOk_by (own := [("entry", 3)]) (N := N_entries_without) (sc := defScope s_entries_without) (by decide +kernel)) (fun _ _ _ _ _ => pg_name (i := 3) nd rfl (Or.inl rfl)) (fun _ _ _ _ _ => (pts_one (pt_cmp (pc_dnotin (hu_of hr) (pv 3) (pv 2))))) (fun _ _ _ _ _ => (pv 3)))))), body_F h fun a B hp => ?_⟩)
  obtain ⟨first, second⟩ := a
  have hp : first.length ≤ 100000 ∧ second.length ≤ 100000 := hp
  refine ex_seq (ex_asg (i := 2) ((fr_dcL (U := tBl) (fun _ => true) (fun entry => entry) (fun entry => true) (EvE.row (K := K) (ev_var rfl)) (by show _ < 4; decide) (by walk_at "side") (fun entry m_entry => et_yes) (fun entry m_entry _ => (ev_var rfl)) (fun entry m_entry _ => ev_bl))).dic (by show _ < 4; decide) ?_)
  refine ex_ret (ev_lcL (U := tStr) (fun entry => (!(dHas (accD (fun _ => true) (fun entry => entry) (fun entry => true) second) entry))) (fun entry => entry) (EvE.row (K := K) (ev_var rfl)) (by show _ < 4; decide) (by walk_at "side") (fun entry m_entry => (et_B (ev_dnotin (ev_var rfl) (ev_var rfl)))) (fun entry m_entry _ => (ev_var rfl))) ?_
  exact (congrArg (fun z => (fre (oList tStr) z)) (show ((first.filter (fun entry => (!(dHas (accD (fun _ => true) (fun entry => entry) (fun entry => true) second) entry)))).map (fun entry => entry)) = m_entries_without first second from rfl))
/-! shared_entries -/
abbrev s_shared_entries : Stmt := top 26
abbrev N_shared_entries : List Str := ["first", "second", "kept", "entry"]
theorem sc_shared_entries : FnScope N_shared_entries ["first", "second"] (defScope s_shared_entries) := ⟨rfl, rfl, rfl, by decide +kernel, rfl, by decide +kernel, by decide +kernel⟩
def m_shared_entries (first : (List Str)) (second : (List Str)) : (List Str) := ((first.filter (fun entry => (dHas (accD (fun _ => true) (fun entry => entry) (fun entry => true) second) entry))).map (fun entry => entry))
abbrev in_shared_entries {w : World} (K : PySem.W.Frag) {mg : Str → Option Value} (T : Tx w K mg) (a : (List Str) × (List Str)) : List SV := [(dat (tList tStr) a.1), (dat (tList tStr) a.2)]
theorem fr_shared_entries {w : World} {K : PySem.W.Frag} {mg : Str → Option Value} {T : Tx w K mg} (a : (List Str) × (List Str)) : ∀ s ∈ in_shared_entries K T a, Fr s := (fr_cons fr_dat (fr_cons fr_dat fr_nil))
abbrev pre_shared_entries (a : (List Str) × (List Str)) : Prop := a.1.length ≤ 100000 ∧ a.2.length ≤ 100000
abbrev sp_shared_entries {w : World} (K : PySem.W.Frag) {mg : Str → Option Value} (T : Tx w K mg) : Sp := spF (A := (List Str) × (List Str)) (fun a => pre_shared_entries a) (fun a => in_shared_entries K T a) (fun a => (fre (oList tStr) (m_shared_entries a.1 a.2)))
theorem cl_shared_entries {T : Tx w K mg} {B : Bas} {ρ ρ1 : List SV} {as : TA} (a : (List Str) × (List Str)) (h : EvA B ρ as (in_shared_entries K T a) ρ1) (hp : pre_shared_entries a) : EvE B ρ (tCl (sp_shared_entries K T) as) (fre (oList tStr) (m_shared_entries a.1 a.2)) ρ1 := ev_call (pre := fun a => pre_shared_entries a) (ins := fun a => in_shared_entries K T a) (res := fun a => (fre (oList tStr) (m_shared_entries a.1 a.2))) a h hp (fr_shared_entries a)
theorem g_shared_entries (T : Tx w K mg) : Gn P w K mg base 1 "shared_entries" (sp_shared_entries K T) := by
  have nd := sc_shared_entries.nd
  refine gn_of T.d_shared_entries sc_shared_entries (lenF fun _ => rfl) (fun _ _ _ _ _ _ us hl => match us, hl with | [_, _], _ => rfl) (fun f cdv A outer s H vs Q E hr h => ⟨_, (pss_cons (ps_set (i := 2) nd rfl (by first | exact Or.inl rfl | exact Or.inr rfl) (pe_dc (own := [("entry", 3)]) (g := gName 3) (tt := tYes) (by rfl) nd (pi_list (pv 1)) (blkOk_by (own := [("entry", 3)]) (N := N_shared_entries) (sc := defScope s_shared_entries) (by decide +kernel)) (fun _ _ _ _ _ => pg_name (i := 3) nd rfl (Or.inl rfl)) (fun _ _ _ _ _ => pts_nil) (fun _ _ _ _ _ => (pv 3)) (fun _ _ _ _ _ => pe_bl))) (pss_one (ps_ret (pe_lc (own := [("entry", 3)]) (g := gName 3) (by rfl) nd (pi_list (pv 0)) (blkOk_by (own := [("entry", 3)]) (N := N_shared_entries) (sc := defScope s_shared_entries) (by decide +kernel)) (fun _ _ _ _ _ => pg_name (i := 3) nd rfl (Or.inl rfl)) (fun _ _ _ _ _ => (pts_one (pt_cmp (pc_din (hu_of hr) (pv 3) (pv 2))))) (fun _ _ _ _ _ => (pv 3)))))), body_F h fun a B hp => ?_⟩)
  obtain ⟨first, second⟩ := a
  have hp : first.length ≤ 100000 ∧ second.length ≤ 100000 := hp
  refine ex_seq (ex_asg (i := 2) ((fr_dcL (U := tBl) (fun _ => true) (fun entry => entry) (fun entry => true) (EvE.row (K := K) (ev_var rfl)) (by show _ < 4; decide) (by walk_at "side") (fun entry m_entry => et_yes) (fun entry m_entry _ => (ev_var rfl)) (fun entry m_entry _ => ev_bl))).dic (by show _ < 4; decide) ?_)
  refine ex_ret (ev_lcL (U := tStr) (fun entry => (dHas (accD (fun _ => true) (fun entry => entry) (fun entry => true) second) entry)) (fun entry => entry) (EvE.row (K := K) (ev_var rfl)) (by show _ < 4; decide) (by walk_at "side") (fun entry m_entry => (et_B (ev_din (ev_var rfl) (ev_var rfl)))) (fun entry m_entry _ => (ev_var rfl))) ?_
  exact (congrArg (fun z => (fre (oList tStr) z)) (show ((first.filter (fun entry => (dHas (accD (fun _ => true) (fun entry => entry) (fun entry => true) second) entry))).map (fun entry => entry)) = m_shared_entries first second from rfl))
/-! _law_standings -/
abbrev s__law_standings : Stmt := top 48
abbrev N__law_standings : List Str := []
theorem sc__law_standings : FnScope N__law_standings [] (defScope s__law_standings) := ⟨rfl, rfl, rfl, by decide +kernel, rfl, by decide +kernel, by decide +kernel⟩
def m__law_standings : (List Str) := ([("look" : Str), ("peek" : Str), ("reserved" : Str)] : List Str)
abbrev in__law_standings {w : World} (K : PySem.W.Frag) {mg : Str → Option Value} (T : Tx w K mg) (a : Unit) : List SV := []
theorem fr__law_standings {w : World} {K : PySem.W.Frag} {mg : Str → Option Value} {T : Tx w K mg} (a : Unit) : ∀ s ∈ in__law_standings K T a, Fr s := fr_nil
abbrev pre__law_standings (a : Unit) : Prop := True
abbrev sp__law_standings {w : World} (K : PySem.W.Frag) {mg : Str → Option Value} (T : Tx w K mg) : Sp := spF (A := Unit) (fun a => pre__law_standings a) (fun a => in__law_standings K T a) (fun a => (fre (oList tStr) (m__law_standings)))
theorem cl__law_standings {T : Tx w K mg} {B : Bas} {ρ ρ1 : List SV} {as : TA} (a : Unit) (h : EvA B ρ as (in__law_standings K T a) ρ1) (hp : pre__law_standings a) : EvE B ρ (tCl (sp__law_standings K T) as) (fre (oList tStr) (m__law_standings)) ρ1 := ev_call (pre := fun a => pre__law_standings a) (ins := fun a => in__law_standings K T a) (res := fun a => (fre (oList tStr) (m__law_standings))) a h hp (fr__law_standings a)
theorem g__law_standings (T : Tx w K mg) : Gn P w K mg base 1 "_law_standings" (sp__law_standings K T) := by
  have nd := sc__law_standings.nd
  refine gn_of T.d__law_standings sc__law_standings (lenF fun _ => rfl) (fun _ _ _ _ _ _ us hl => match us, hl with | [], _ => rfl) (fun f cdv A outer s H vs Q E hr h => ⟨_, (pss_one (ps_ret (pe_lst (pa_cons pe_str (pa_cons pe_str (pa_cons pe_str pa_nil)))))), body_F h fun a B hp => ?_⟩)
  refine ex_ret (fr_lst (T := tStr) (xs := ([("look" : Str), ("peek" : Str), ("reserved" : Str)] : List Str)) (ea_cons ev_str (ea_cons ev_str (ea_cons ev_str ea_nil))) (by show 3 ≤ sizeLine; decide)) ?_
  exact (congrArg (fun z => (fre (oList tStr) z)) (show ([("look" : Str), ("peek" : Str), ("reserved" : Str)] : List Str) = m__law_standings from rfl))
/-! _law_deeds -/
abbrev s__law_deeds : Stmt := top 49
abbrev N__law_deeds : List Str := []
theorem sc__law_deeds : FnScope N__law_deeds [] (defScope s__law_deeds) := ⟨rfl, rfl, rfl, by decide +kernel, rfl, by decide +kernel, by decide +kernel⟩
def m__law_deeds : (List Str) := ([("see" : Str), ("lend" : Str), ("reserve" : Str), ("mark" : Str), ("fill" : Str), ("pack" : Str), ("work" : Str)] : List Str)
abbrev in__law_deeds {w : World} (K : PySem.W.Frag) {mg : Str → Option Value} (T : Tx w K mg) (a : Unit) : List SV := []
theorem fr__law_deeds {w : World} {K : PySem.W.Frag} {mg : Str → Option Value} {T : Tx w K mg} (a : Unit) : ∀ s ∈ in__law_deeds K T a, Fr s := fr_nil
abbrev pre__law_deeds (a : Unit) : Prop := True
abbrev sp__law_deeds {w : World} (K : PySem.W.Frag) {mg : Str → Option Value} (T : Tx w K mg) : Sp := spF (A := Unit) (fun a => pre__law_deeds a) (fun a => in__law_deeds K T a) (fun a => (fre (oList tStr) (m__law_deeds)))
theorem cl__law_deeds {T : Tx w K mg} {B : Bas} {ρ ρ1 : List SV} {as : TA} (a : Unit) (h : EvA B ρ as (in__law_deeds K T a) ρ1) (hp : pre__law_deeds a) : EvE B ρ (tCl (sp__law_deeds K T) as) (fre (oList tStr) (m__law_deeds)) ρ1 := ev_call (pre := fun a => pre__law_deeds a) (ins := fun a => in__law_deeds K T a) (res := fun a => (fre (oList tStr) (m__law_deeds))) a h hp (fr__law_deeds a)
theorem g__law_deeds (T : Tx w K mg) : Gn P w K mg base 1 "_law_deeds" (sp__law_deeds K T) := by
  have nd := sc__law_deeds.nd
  refine gn_of T.d__law_deeds sc__law_deeds (lenF fun _ => rfl) (fun _ _ _ _ _ _ us hl => match us, hl with | [], _ => rfl) (fun f cdv A outer s H vs Q E hr h => ⟨_, (pss_one (ps_ret (pe_lst (pa_cons pe_str (pa_cons pe_str (pa_cons pe_str (pa_cons pe_str (pa_cons pe_str (pa_cons pe_str (pa_cons pe_str pa_nil)))))))))), body_F h fun a B hp => ?_⟩)
  refine ex_ret (fr_lst (T := tStr) (xs := ([("see" : Str), ("lend" : Str), ("reserve" : Str), ("mark" : Str), ("fill" : Str), ("pack" : Str), ("work" : Str)] : List Str)) (ea_cons ev_str (ea_cons ev_str (ea_cons ev_str (ea_cons ev_str (ea_cons ev_str (ea_cons ev_str (ea_cons ev_str ea_nil))))))) (by show 7 ≤ sizeLine; decide)) ?_
  exact (congrArg (fun z => (fre (oList tStr) z)) (show ([("see" : Str), ("lend" : Str), ("reserve" : Str), ("mark" : Str), ("fill" : Str), ("pack" : Str), ("work" : Str)] : List Str) = m__law_deeds from rfl))
/-! _law_strong -/
abbrev s__law_strong : Stmt := top 50
abbrev N__law_strong : List Str := []
theorem sc__law_strong : FnScope N__law_strong [] (defScope s__law_strong) := ⟨rfl, rfl, rfl, by decide +kernel, rfl, by decide +kernel, by decide +kernel⟩
def m__law_strong : (List Str) := ([("mark" : Str), ("fill" : Str), ("pack" : Str), ("work" : Str)] : List Str)
abbrev in__law_strong {w : World} (K : PySem.W.Frag) {mg : Str → Option Value} (T : Tx w K mg) (a : Unit) : List SV := []
theorem fr__law_strong {w : World} {K : PySem.W.Frag} {mg : Str → Option Value} {T : Tx w K mg} (a : Unit) : ∀ s ∈ in__law_strong K T a, Fr s := fr_nil
abbrev pre__law_strong (a : Unit) : Prop := True
abbrev sp__law_strong {w : World} (K : PySem.W.Frag) {mg : Str → Option Value} (T : Tx w K mg) : Sp := spF (A := Unit) (fun a => pre__law_strong a) (fun a => in__law_strong K T a) (fun a => (fre (oList tStr) (m__law_strong)))
theorem cl__law_strong {T : Tx w K mg} {B : Bas} {ρ ρ1 : List SV} {as : TA} (a : Unit) (h : EvA B ρ as (in__law_strong K T a) ρ1) (hp : pre__law_strong a) : EvE B ρ (tCl (sp__law_strong K T) as) (fre (oList tStr) (m__law_strong)) ρ1 := ev_call (pre := fun a => pre__law_strong a) (ins := fun a => in__law_strong K T a) (res := fun a => (fre (oList tStr) (m__law_strong))) a h hp (fr__law_strong a)
theorem g__law_strong (T : Tx w K mg) : Gn P w K mg base 1 "_law_strong" (sp__law_strong K T) := by
  have nd := sc__law_strong.nd
  refine gn_of T.d__law_strong sc__law_strong (lenF fun _ => rfl) (fun _ _ _ _ _ _ us hl => match us, hl with | [], _ => rfl) (fun f cdv A outer s H vs Q E hr h => ⟨_, (pss_one (ps_ret (pe_lst (pa_cons pe_str (pa_cons pe_str (pa_cons pe_str (pa_cons pe_str pa_nil))))))), body_F h fun a B hp => ?_⟩)
  refine ex_ret (fr_lst (T := tStr) (xs := ([("mark" : Str), ("fill" : Str), ("pack" : Str), ("work" : Str)] : List Str)) (ea_cons ev_str (ea_cons ev_str (ea_cons ev_str (ea_cons ev_str ea_nil)))) (by show 4 ≤ sizeLine; decide)) ?_
  exact (congrArg (fun z => (fre (oList tStr) z)) (show ([("mark" : Str), ("fill" : Str), ("pack" : Str), ("work" : Str)] : List Str) = m__law_strong from rfl))
/-! _law_relations -/
abbrev s__law_relations : Stmt := top 51
abbrev N__law_relations : List Str := []
theorem sc__law_relations : FnScope N__law_relations [] (defScope s__law_relations) := ⟨rfl, rfl, rfl, by decide +kernel, rfl, by decide +kernel, by decide +kernel⟩
def m__law_relations : (List Str) := ([("same" : Str), ("over" : Str), ("overbox" : Str), ("under" : Str), ("underbox" : Str)] : List Str)
abbrev in__law_relations {w : World} (K : PySem.W.Frag) {mg : Str → Option Value} (T : Tx w K mg) (a : Unit) : List SV := []
theorem fr__law_relations {w : World} {K : PySem.W.Frag} {mg : Str → Option Value} {T : Tx w K mg} (a : Unit) : ∀ s ∈ in__law_relations K T a, Fr s := fr_nil
abbrev pre__law_relations (a : Unit) : Prop := True
abbrev sp__law_relations {w : World} (K : PySem.W.Frag) {mg : Str → Option Value} (T : Tx w K mg) : Sp := spF (A := Unit) (fun a => pre__law_relations a) (fun a => in__law_relations K T a) (fun a => (fre (oList tStr) (m__law_relations)))
theorem cl__law_relations {T : Tx w K mg} {B : Bas} {ρ ρ1 : List SV} {as : TA} (a : Unit) (h : EvA B ρ as (in__law_relations K T a) ρ1) (hp : pre__law_relations a) : EvE B ρ (tCl (sp__law_relations K T) as) (fre (oList tStr) (m__law_relations)) ρ1 := ev_call (pre := fun a => pre__law_relations a) (ins := fun a => in__law_relations K T a) (res := fun a => (fre (oList tStr) (m__law_relations))) a h hp (fr__law_relations a)
theorem g__law_relations (T : Tx w K mg) : Gn P w K mg base 1 "_law_relations" (sp__law_relations K T) := by
  have nd := sc__law_relations.nd
  refine gn_of T.d__law_relations sc__law_relations (lenF fun _ => rfl) (fun _ _ _ _ _ _ us hl => match us, hl with | [], _ => rfl) (fun f cdv A outer s H vs Q E hr h => ⟨_, (pss_one (ps_ret (pe_lst (pa_cons pe_str (pa_cons pe_str (pa_cons pe_str (pa_cons pe_str (pa_cons pe_str pa_nil)))))))), body_F h fun a B hp => ?_⟩)
  refine ex_ret (fr_lst (T := tStr) (xs := ([("same" : Str), ("over" : Str), ("overbox" : Str), ("under" : Str), ("underbox" : Str)] : List Str)) (ea_cons ev_str (ea_cons ev_str (ea_cons ev_str (ea_cons ev_str (ea_cons ev_str ea_nil))))) (by show 5 ≤ sizeLine; decide)) ?_
  exact (congrArg (fun z => (fre (oList tStr) z)) (show ([("same" : Str), ("over" : Str), ("overbox" : Str), ("under" : Str), ("underbox" : Str)] : List Str) = m__law_relations from rfl))
/-! words_of -/
abbrev s_words_of : Stmt := top 16
abbrev N_words_of : List Str := ["part", "words", "named", "word"]
theorem sc_words_of : FnScope N_words_of ["part", "words"] (defScope s_words_of) := ⟨rfl, rfl, rfl, by decide +kernel, rfl, by decide +kernel, by decide +kernel⟩
def m_words_of (part : Str) (words : (List Str)) : (Option (List Str)) := (if (decide (part = ("*" : Str))) = true then (some words) else (if (!((((Txt.split part ("," : Str)).filter (fun _ => true)).map (fun word => (decide (word ∈ words)))).all id)) = true then none else (some ((words.filter (fun word => (decide (word ∈ (Txt.split part ("," : Str)))))).map (fun word => word)))))
abbrev in_words_of {w : World} (K : PySem.W.Frag) {mg : Str → Option Value} (T : Tx w K mg) (a : Str × (List Str)) : List SV := [(dat tStr a.1), (dat (tTupL K tStr) a.2)]
theorem fr_words_of {w : World} {K : PySem.W.Frag} {mg : Str → Option Value} {T : Tx w K mg} (a : Str × (List Str)) : ∀ s ∈ in_words_of K T a, Fr s := (fr_cons fr_dat (fr_cons fr_dat fr_nil))
abbrev pre_words_of (a : Str × (List Str)) : Prop := a.1.length ≤ 1000 ∧ a.2.length ≤ 100 ∧ (Txt.split a.1 ",").length ≤ 1000
abbrev sp_words_of {w : World} (K : PySem.W.Frag) {mg : Str → Option Value} (T : Tx w K mg) : Sp := spF (A := Str × (List Str)) (fun a => pre_words_of a) (fun a => in_words_of K T a) (fun a => (dat (tOpt (tList tStr)) (m_words_of a.1 a.2)))
theorem cl_words_of {T : Tx w K mg} {B : Bas} {ρ ρ1 : List SV} {as : TA} (a : Str × (List Str)) (h : EvA B ρ as (in_words_of K T a) ρ1) (hp : pre_words_of a) : EvE B ρ (tCl (sp_words_of K T) as) (dat (tOpt (tList tStr)) (m_words_of a.1 a.2)) ρ1 := ev_call (pre := fun a => pre_words_of a) (ins := fun a => in_words_of K T a) (res := fun a => (dat (tOpt (tList tStr)) (m_words_of a.1 a.2))) a h hp (fr_words_of a)
theorem g_words_of (T : Tx w K mg) : Gn P w K mg base 1 "words_of" (sp_words_of K T) := by
  have nd := sc_words_of.nd
  refine gn_of T.d_words_of sc_words_of (lenF fun _ => rfl) (fun _ _ _ _ _ _ us hl => match us, hl with | [_, _], _ => rfl) (fun f cdv A outer s H vs Q E hr h => ⟨_, (pss_cons (ps_if (pt_cmpR op_eq (pv 0) pe_str (nomark _)) (pss_one (ps_ret (pe_callTy call_list_of (by rfl) T.n_list (by decide +kernel) (pa_cons (pv 1) pa_nil)))) pss_nil) (pss_cons (ps_set (i := 2) nd rfl (by first | exact Or.inl rfl | exact Or.inr rfl) (pe_split (pv 0) pe_str)) (pss_cons (ps_if (pt_not (pt_val (pe_callB (cr_all rfl) (by rfl) T.n_all (by decide +kernel) (pa_cons (pe_lc (own := [("word", 3)]) (g := gName 3) (tt := tYes) (by rfl) nd (pi_list (pv 2)) (blkOk_by (own := [("word", 3)]) (N := N_words_of) (sc := defScope s_words_of) (by decide +kernel)) (fun _ _ _ _ _ => pg_name (i := 3) nd rfl (Or.inl rfl)) (fun _ _ _ _ _ => pts_nil) (fun _ _ _ _ _ => (pe_cmpR (op_in_K (K := K) rfl) (pv 3) (pv 1) (by with_unfolding_all rfl)))) pa_nil)))) (pss_one (ps_ret pe_non)) pss_nil) (pss_one (ps_ret (pe_lc (own := [("word", 3)]) (g := gName 3) (by rfl) nd (pi_tup (pv 1)) (blkOk_by (own := [("word", 3)]) (N := N_words_of) (sc := defScope s_words_of) (by decide +kernel)) (fun _ _ _ _ _ => pg_name (i := 3) nd rfl (Or.inl rfl)) (fun _ _ _ _ _ => (pts_one (pt_cmpR (op_in_K (K := K) rfl) (pv 3) (pv 2) (by with_unfolding_all rfl)))) (fun _ _ _ _ _ => (pv 3)))))))), body_F h fun a B hp => ?_⟩)
  obtain ⟨part, words⟩ := a
  have hp : part.length ≤ 1000 ∧ words.length ≤ 100 ∧ (Txt.split part ",").length ≤ 1000 := hp
  refine ex_seq (ex_if (et_test (ev_eqS (ev_var rfl) ev_str)) (fun h1 => ?_) (fun h1 => ?_))
  · refine ex_ret (EvE.someO ((fr_listT (ea_cons (ev_var rfl) ea_nil))).lst nn_list) ?_
    exact (congrArg (fun z => (dat (tOpt (tList tStr)) z)) (show (some words) = m_words_of part words from by unfold m_words_of; rw [if_pos h1]))
  · refine ex_next ?_
    refine ex_seq (ex_asg (i := 2) ((fr_split rfl (ev_var rfl) ev_str (by first | rfl | decide +kernel) (by walk_at "side"))).lst (by show _ < 4; decide) ?_)
    refine ex_seq (ex_if (et_not (et_B (ev_all (ea_cons (EvE.row (K := K) ((ev_lcL (U := tBl) (fun _ => true) (fun word => (decide (word ∈ words))) (EvE.row (K := K) (ev_var rfl)) (by show _ < 4; decide) (by walk_at "side") (fun word m_word => et_yes) (fun word m_word _ => (ev_isT (ev_var rfl) (ev_var rfl))))).lst) ea_nil)))) (fun h2 => ?_) (fun h2 => ?_))
    · refine ex_ret (EvE.noneO (T := (tList tStr)) ev_non) ?_
      exact (congrArg (fun z => (dat (tOpt (tList tStr)) z)) (show none = m_words_of part words from by unfold m_words_of; rw [if_neg (nt h1), if_pos h2]))
    · refine ex_next ?_
      refine ex_ret (EvE.someO ((ev_lcT (U := tStr) (fun word => (decide (word ∈ (Txt.split part ("," : Str))))) (fun word => word) (ev_var rfl) (by show _ < 4; decide) (by walk_at "side") (fun word m_word => (et_test (ev_isL (ev_var rfl) (EvE.row (K := K) (ev_var rfl))))) (fun word m_word _ => (ev_var rfl)))).lst nn_list) ?_
      exact (congrArg (fun z => (dat (tOpt (tList tStr)) z)) (show (some ((words.filter (fun word => (decide (word ∈ (Txt.split part ("," : Str)))))).map (fun word => word))) = m_words_of part words from by unfold m_words_of; rw [if_neg (nt h1), if_neg (nt h2)]))
/-! words_of_entry -/
abbrev s_words_of_entry : Stmt := top 18
abbrev N_words_of_entry : List Str := ["entry", "words"]
theorem sc_words_of_entry : FnScope N_words_of_entry ["entry"] (defScope s_words_of_entry) := ⟨rfl, rfl, rfl, by decide +kernel, rfl, by decide +kernel, by decide +kernel⟩
def m_words_of_entry (entry : Str) : (List Str) := (if ((!decide (((Txt.split entry (" " : Str)).length : Int) = 3)) || ((!decide ((ixD (Txt.split entry (" " : Str)) 0) ∈ c_STANDINGS)) || ((!decide ((ixD (Txt.split entry (" " : Str)) 1) ∈ c_DEEDS)) || (!decide ((ixD (Txt.split entry (" " : Str)) 2) ∈ c_RELATIONS))))) = true then default else (Txt.split entry (" " : Str)))
abbrev in_words_of_entry {w : World} (K : PySem.W.Frag) {mg : Str → Option Value} (T : Tx w K mg) (a : Str) : List SV := [(dat tStr a)]
theorem fr_words_of_entry {w : World} {K : PySem.W.Frag} {mg : Str → Option Value} {T : Tx w K mg} (a : Str) : ∀ s ∈ in_words_of_entry K T a, Fr s := (fr_cons fr_dat fr_nil)
abbrev pre_words_of_entry (a : Str) : Prop := a ∈ allE
abbrev sp_words_of_entry {w : World} (K : PySem.W.Frag) {mg : Str → Option Value} (T : Tx w K mg) : Sp := spF (A := Str) (fun a => pre_words_of_entry a) (fun a => in_words_of_entry K T a) (fun a => (dat (tList tStr) (m_words_of_entry a)))
theorem cl_words_of_entry {T : Tx w K mg} {B : Bas} {ρ ρ1 : List SV} {as : TA} (a : Str) (h : EvA B ρ as (in_words_of_entry K T a) ρ1) (hp : pre_words_of_entry a) : EvE B ρ (tCl (sp_words_of_entry K T) as) (dat (tList tStr) (m_words_of_entry a)) ρ1 := ev_call (pre := fun a => pre_words_of_entry a) (ins := fun a => in_words_of_entry K T a) (res := fun a => (dat (tList tStr) (m_words_of_entry a))) a h hp (fr_words_of_entry a)
theorem g_words_of_entry (T : Tx w K mg) : Gn P w K mg base 1 "words_of_entry" (sp_words_of_entry K T) := by
  have nd := sc_words_of_entry.nd
  refine gn_of T.d_words_of_entry sc_words_of_entry (lenF fun _ => rfl) (fun _ _ _ _ _ _ us hl => match us, hl with | [_], _ => rfl) (fun f cdv A outer s H vs Q E hr h => ⟨_, (pss_cons (ps_set (i := 1) nd rfl (by first | exact Or.inl rfl | exact Or.inr rfl) (pe_split (pv 0) pe_str)) (pss_cons (ps_if (PW.pt (pw_or (pt_cmpR op_ne (pe_callB call_len_seq (by rfl) T.n_len PySem.boot_len (pa_cons (pv 1) pa_nil)) pe_int (nomark _)) (pw_or (pt_cmpR (op_notIn_K (K := K) rfl) (pe_ix ix_list (pv 1) pe_int (fun _ _ => rfl)) (pe_gc rfl T.g_STANDINGS) (by with_unfolding_all rfl)) (pw_or (pt_cmpR (op_notIn_K (K := K) rfl) (pe_ix ix_list (pv 1) pe_int (fun _ _ => rfl)) (pe_gc rfl T.g_DEEDS) (by with_unfolding_all rfl)) (pw_or1 (pt_cmpR (op_notIn_K (K := K) rfl) (pe_ix ix_list (pv 1) pe_int (fun _ _ => rfl)) (pe_gc rfl T.g_RELATIONS) (by with_unfolding_all rfl))))))) (pss_one ps_never) pss_nil) (pss_one (ps_ret (pv 1))))), body_F h fun entry B hp => ?_⟩)
  have hp : entry ∈ allE := hp
  obtain ⟨hsp, e0, e1, e2, hle⟩ := e_facts _ hp
  have g0 : (ixD (Txt.split entry (" " : Str)) 0).length ≤ 10 := l_st _ e0
  have g1 : (ixD (Txt.split entry (" " : Str)) 1).length ≤ 10 := l_de _ e1
  have g2 : (ixD (Txt.split entry (" " : Str)) 2).length ≤ 10 := l_re _ e2
  have gi := l_inv (ixD (Txt.split entry (" " : Str)) 2)
  have gv := rel_inv _ e2
  refine ex_seq (ex_asg (i := 1) ((fr_split rfl (ev_var rfl) ev_str (by first | rfl | decide +kernel) (by walk_at "side"))).lst (by show _ < 2; decide) ?_)
  refine ex_seq (ex_if (et_or (et_test (ev_neI (ev_lenL (ea_cons (EvE.row (K := K) (ev_var rfl)) ea_nil)) ev_int)) (fun _ => (et_or (et_test (ev_niT (ev_ixL (a := (ixD (Txt.split entry (" " : Str)) 0)) (EvE.row (K := K) (ev_var rfl)) ev_int (by walk_at "side")) (ev_sc T.v_STANDINGS))) (fun _ => (et_or (et_test (ev_niT (ev_ixL (a := (ixD (Txt.split entry (" " : Str)) 1)) (EvE.row (K := K) (ev_var rfl)) ev_int (by walk_at "side")) (ev_sc T.v_DEEDS))) (fun _ => (et_test (ev_niT (ev_ixL (a := (ixD (Txt.split entry (" " : Str)) 2)) (EvE.row (K := K) (ev_var rfl)) ev_int (by walk_at "side")) (ev_sc T.v_RELATIONS))))))))) (fun h1 => ?_) (fun h1 => ?_))
  · exact (by exfalso; revert h1; rw [hsp]; simp [ix0, ix1, ix2, e0, e1, e2])
  · refine ex_next ?_
    refine ex_ret (ev_var rfl) ?_
    exact (congrArg (fun z => (dat (tList tStr) z)) (show (Txt.split entry (" " : Str)) = m_words_of_entry entry from by unfold m_words_of_entry; rw [if_neg (nt h1)]))
/-! is_live -/
abbrev s_is_live : Stmt := top 19
abbrev N_is_live : List Str := ["entry", "allowed", "standing", "deed", "word", "strong"]
theorem sc_is_live : FnScope N_is_live ["entry", "allowed"] (defScope s_is_live) := ⟨rfl, rfl, rfl, by decide +kernel, rfl, by decide +kernel, by decide +kernel⟩
def m_is_live (entry : Str) (allowed : (List (Str × Bool))) : Bool := (if (decide ((ixD (Txt.split entry (" " : Str)) 1) ∈ c_STRONG)) = true then (if (dHas allowed (((Str.empty ++ (ixD (Txt.split entry (" " : Str)) 0)) ++ (" reserve " : Str)) ++ (ixD (Txt.split entry (" " : Str)) 2))) = true then true else ((!decide ((ixD (Txt.split entry (" " : Str)) 0) = ("reserved" : Str))) && (dHas allowed ((Str.empty ++ ("reserved lend " : Str)) ++ (m_inverse (ixD (Txt.split entry (" " : Str)) 2)))))) else (if ((decide ((ixD (Txt.split entry (" " : Str)) 0) = ("reserved" : Str))) && (decide ((ixD (Txt.split entry (" " : Str)) 1) = ("reserve" : Str)))) = true then (((c_STRONG.filter (fun _ => true)).map (fun strong => (dHas allowed ((((Str.empty ++ ("reserved " : Str)) ++ strong) ++ (" " : Str)) ++ (ixD (Txt.split entry (" " : Str)) 2))))).any id) else true))
abbrev in_is_live {w : World} (K : PySem.W.Frag) {mg : Str → Option Value} (T : Tx w K mg) (a : Str × (List (Str × Bool))) : List SV := [(dat tStr a.1), (dat (tDic tBl) a.2)]
theorem fr_is_live {w : World} {K : PySem.W.Frag} {mg : Str → Option Value} {T : Tx w K mg} (a : Str × (List (Str × Bool))) : ∀ s ∈ in_is_live K T a, Fr s := (fr_cons fr_dat (fr_cons fr_dat fr_nil))
abbrev pre_is_live (a : Str × (List (Str × Bool))) : Prop := a.1 ∈ allE
abbrev sp_is_live {w : World} (K : PySem.W.Frag) {mg : Str → Option Value} (T : Tx w K mg) : Sp := spF (A := Str × (List (Str × Bool))) (fun a => pre_is_live a) (fun a => in_is_live K T a) (fun a => (dat tBl (m_is_live a.1 a.2)))
theorem cl_is_live {T : Tx w K mg} {B : Bas} {ρ ρ1 : List SV} {as : TA} (a : Str × (List (Str × Bool))) (h : EvA B ρ as (in_is_live K T a) ρ1) (hp : pre_is_live a) : EvE B ρ (tCl (sp_is_live K T) as) (dat tBl (m_is_live a.1 a.2)) ρ1 := ev_call (pre := fun a => pre_is_live a) (ins := fun a => in_is_live K T a) (res := fun a => (dat tBl (m_is_live a.1 a.2))) a h hp (fr_is_live a)
theorem g_is_live (T : Tx w K mg) : Gn P w K mg base 2 "is_live" (sp_is_live K T) := by
  have nd := sc_is_live.nd
  refine gn_of T.d_is_live sc_is_live (lenF fun _ => rfl) (fun _ _ _ _ _ _ us hl => match us, hl with | [_, _], _ => rfl) (fun f cdv A outer s H vs Q E hr h => ⟨_, (pss_cons (ps_asg (pe_split (pv 0) pe_str) (pg_lst rfl (pgs_cons (pg_name (i := 2) nd rfl (by first | exact Or.inl rfl | exact Or.inr rfl)) (pgs_cons (pg_name (i := 3) nd rfl (by first | exact Or.inl rfl | exact Or.inr rfl)) (pgs_cons (pg_name (i := 4) nd rfl (by first | exact Or.inl rfl | exact Or.inr rfl)) pgs_nil))))) (pss_cons (ps_if (pt_cmpR (op_in_K (K := K) rfl) (pv 3) (pe_gc rfl T.g_STRONG) (by with_unfolding_all rfl)) (pss_cons (ps_if (pt_cmp (pc_din (hu_of hr) (pe_joined (PJ.cons (pe_fmt (pv 2)) (PJ.cons pe_str (PJ.cons (pe_fmt (pv 4)) PJ.nil)))) (pv 1))) (pss_one (ps_ret pe_bl)) pss_nil) (pss_one (ps_ret (pe_and (pe_cmpR op_ne (pv 2) pe_str (nomark _)) (pe_one (pe_cmp (pc_din (hu_of hr) (pe_joined (PJ.cons pe_str (PJ.cons (pe_fmt (pe_cl (g_inverse T) hr (by decide) rfl (pa_cons (pv 4) pa_nil))) PJ.nil))) (pv 1)))))))) pss_nil) (pss_cons (ps_if (PW.pt (pw_and (pt_cmpR op_eq (pv 2) pe_str (nomark _)) (pw_and1 (pt_cmpR op_eq (pv 3) pe_str (nomark _))))) (pss_one (ps_ret (pe_callB (cr_any rfl) (by rfl) T.n_any (by decide +kernel) (pa_cons (pe_lc (own := [("strong", 5)]) (g := gName 5) (tt := tYes) (by rfl) nd (pi_tup (pe_gc rfl T.g_STRONG)) (blkOk_by (own := [("strong", 5)]) (N := N_is_live) (sc := defScope s_is_live) (by decide +kernel)) (fun _ _ _ _ _ => pg_name (i := 5) nd rfl (Or.inl rfl)) (fun _ _ _ _ _ => pts_nil) (fun _ _ _ _ _ => (pe_cmp (pc_din (hu_of hr) (pe_joined (PJ.cons pe_str (PJ.cons (pe_fmt (pv 5)) (PJ.cons pe_str (PJ.cons (pe_fmt (pv 4)) PJ.nil))))) (pv 1))))) pa_nil)))) pss_nil) (pss_one (ps_ret pe_bl))))), body_F h fun a B hp => ?_⟩)
  obtain ⟨entry, allowed⟩ := a
  have hp : entry ∈ allE := hp
  obtain ⟨hsp, e0, e1, e2, hle⟩ := e_facts _ hp
  have g0 : (ixD (Txt.split entry (" " : Str)) 0).length ≤ 10 := l_st _ e0
  have g1 : (ixD (Txt.split entry (" " : Str)) 1).length ≤ 10 := l_de _ e1
  have g2 : (ixD (Txt.split entry (" " : Str)) 2).length ≤ 10 := l_re _ e2
  have gi := l_inv (ixD (Txt.split entry (" " : Str)) 2)
  have gv := rel_inv _ e2
  refine ex_seq (ex_unp3 (i := 2) (j := 3) (k := 4) (a := (ixD (Txt.split entry (" " : Str)) 0)) (b := (ixD (Txt.split entry (" " : Str)) 1)) (c := (ixD (Txt.split entry (" " : Str)) 2)) (EvE.row (K := K) ((fr_split rfl (ev_var rfl) ev_str (by first | rfl | decide +kernel) (by walk_at "side"))).lst) (by walk_at "side") (by show _ < 6; decide) (by show _ < 6; decide) (by show _ < 6; decide) ?_)
  refine ex_seq (ex_if (et_test (ev_isT (ev_var rfl) (ev_sc T.v_STRONG))) (fun h1 => ?_) (fun h1 => ?_))
  · refine ex_seq (ex_if (et_B (ev_din (ev_joined (ej_cons (ev_fmt (ev_var rfl) (by walk_at "side")) (by walk_at "side") (ej_cons ev_str (by walk_at "side") (ej_cons (ev_fmt (ev_var rfl) (by walk_at "side")) (by walk_at "side") ej_nil)))) (ev_var rfl))) (fun h2 => ?_) (fun h2 => ?_))
    · refine ex_ret ev_bl ?_
      exact (congrArg (fun z => (dat tBl z)) (show true = m_is_live entry allowed from by unfold m_is_live; rw [if_pos h1, if_pos h2]))
    · refine ex_next ?_
      refine ex_ret (ev_and (ev_neS (ev_var rfl) ev_str) (fun _ => (ev_din (ev_joined (ej_cons ev_str (by walk_at "side") (ej_cons (ev_fmt (ev_call (ins := in_inverse K T) (ixD (Txt.split entry (" " : Str)) 2) (ea_cons (ev_var rfl) ea_nil) (by walk_at "side") (fr_inverse (ixD (Txt.split entry (" " : Str)) 2))) (by walk_at "side")) (by walk_at "side") ej_nil))) (ev_var rfl)))) ?_
      exact (congrArg (fun z => (dat tBl z)) (show ((!decide ((ixD (Txt.split entry (" " : Str)) 0) = ("reserved" : Str))) && (dHas allowed ((Str.empty ++ ("reserved lend " : Str)) ++ (m_inverse (ixD (Txt.split entry (" " : Str)) 2))))) = m_is_live entry allowed from by unfold m_is_live; rw [if_pos h1, if_neg (nt h2)]))
  · refine ex_next ?_
    refine ex_seq (ex_if (et_and (et_test (ev_eqS (ev_var rfl) ev_str)) (fun _ => (et_test (ev_eqS (ev_var rfl) ev_str)))) (fun h3 => ?_) (fun h3 => ?_))
    · refine ex_ret (ev_any (ea_cons (EvE.row (K := K) ((ev_lcT (U := tBl) (fun _ => true) (fun strong => (dHas allowed ((((Str.empty ++ ("reserved " : Str)) ++ strong) ++ (" " : Str)) ++ (ixD (Txt.split entry (" " : Str)) 2)))) (ev_sc T.v_STRONG) (by show _ < 6; decide) (by walk_at "side") (fun strong m_strong => et_yes) (fun strong m_strong _ => (ev_din (ev_joined (ej_cons ev_str (by walk_at "side") (ej_cons (ev_fmt (ev_var rfl) (by walk_at "side")) (by walk_at "side") (ej_cons ev_str (by walk_at "side") (ej_cons (ev_fmt (ev_var rfl) (by walk_at "side")) (by walk_at "side") ej_nil))))) (ev_var rfl))))).lst) ea_nil)) ?_
      exact (congrArg (fun z => (dat tBl z)) (show (((c_STRONG.filter (fun _ => true)).map (fun strong => (dHas allowed ((((Str.empty ++ ("reserved " : Str)) ++ strong) ++ (" " : Str)) ++ (ixD (Txt.split entry (" " : Str)) 2))))).any id) = m_is_live entry allowed from by unfold m_is_live; rw [if_neg (nt h1), if_pos h3]))
    · refine ex_next ?_
      refine ex_ret ev_bl ?_
      exact (congrArg (fun z => (dat tBl z)) (show true = m_is_live entry allowed from by unfold m_is_live; rw [if_neg (nt h1), if_neg (nt h3)]))
/-! all_entries -/
abbrev s_all_entries : Stmt := top 14
abbrev N_all_entries : List Str := []
theorem sc_all_entries : FnScope N_all_entries [] (defScope s_all_entries) := ⟨rfl, rfl, rfl, by decide +kernel, rfl, by decide +kernel, by decide +kernel⟩
def m_all_entries : (List Str) := (m_written c_STANDINGS c_DEEDS c_RELATIONS)
abbrev in_all_entries {w : World} (K : PySem.W.Frag) {mg : Str → Option Value} (T : Tx w K mg) (a : Unit) : List SV := []
theorem fr_all_entries {w : World} {K : PySem.W.Frag} {mg : Str → Option Value} {T : Tx w K mg} (a : Unit) : ∀ s ∈ in_all_entries K T a, Fr s := fr_nil
abbrev pre_all_entries (a : Unit) : Prop := True
abbrev sp_all_entries {w : World} (K : PySem.W.Frag) {mg : Str → Option Value} (T : Tx w K mg) : Sp := spF (A := Unit) (fun a => pre_all_entries a) (fun a => in_all_entries K T a) (fun a => (fre (oList tStr) (m_all_entries)))
theorem cl_all_entries {T : Tx w K mg} {B : Bas} {ρ ρ1 : List SV} {as : TA} (a : Unit) (h : EvA B ρ as (in_all_entries K T a) ρ1) (hp : pre_all_entries a) : EvE B ρ (tCl (sp_all_entries K T) as) (fre (oList tStr) (m_all_entries)) ρ1 := ev_call (pre := fun a => pre_all_entries a) (ins := fun a => in_all_entries K T a) (res := fun a => (fre (oList tStr) (m_all_entries))) a h hp (fr_all_entries a)
theorem g_all_entries (T : Tx w K mg) : Gn P w K mg base 2 "all_entries" (sp_all_entries K T) := by
  have nd := sc_all_entries.nd
  refine gn_of T.d_all_entries sc_all_entries (lenF fun _ => rfl) (fun _ _ _ _ _ _ us hl => match us, hl with | [], _ => rfl) (fun f cdv A outer s H vs Q E hr h => ⟨_, (pss_one (ps_ret (pe_cl (g_writtenT T) hr (by decide) rfl (pa_cons (pe_gc rfl T.g_STANDINGS) (pa_cons (pe_gc rfl T.g_DEEDS) (pa_cons (pe_gc rfl T.g_RELATIONS) pa_nil)))))), body_F h fun a B hp => ?_⟩)
  refine ex_ret (ev_call (ins := in_writtenT K T) (c_STANDINGS, c_DEEDS, c_RELATIONS) (ea_cons (ev_sc T.v_STANDINGS) (ea_cons (ev_sc T.v_DEEDS) (ea_cons (ev_sc T.v_RELATIONS) ea_nil))) (by walk_at "side") (fr_writtenT (c_STANDINGS, c_DEEDS, c_RELATIONS))) ?_
  exact (congrArg (fun z => (fre (oList tStr) z)) (show (m_written c_STANDINGS c_DEEDS c_RELATIONS) = m_all_entries from rfl))
end
end K79
/-! text D1b -/
/-! D1b: the table as it is made. -/
namespace K79
open PySem PySem.Spec PyProof.Rows L2 Sw
theorem m_all_eq : m_all_entries = allE := by decide +kernel
theorem l_all : m_all_entries.length = 105 := by rw [m_all_eq]; exact allE_len
/-- a pattern that can be read -/
def okP (p : Str) (ws : List Str) : Prop := p.length ≤ 1000 ∧ (Txt.split p ",").length ≤ 1000 ∧ (m_words_of p ws).isSome = true
def preX (p : Str) : Prop := p.length ≤ 1000 ∧ ∃ a b c, Txt.split p " " = [a, b, c] ∧ okP a c_STANDINGS ∧ okP b c_DEEDS ∧ okP c c_RELATIONS
theorem words_sub {p : Str} {ws : List Str} : ∀ x, m_words_of p ws = some x → x.length ≤ ws.length ∧ ∀ s ∈ x, s ∈ ws := fun x h => by
  unfold m_words_of at h
  split at h
  · cases h; exact ⟨Nat.le_refl _, fun s hs => hs⟩
  · split at h
    · cases h
    · cases h
      rw [List.map_id']
      exact ⟨List.length_filter_le _ _, fun s hs => (List.mem_filter.mp hs).1⟩
end K79
namespace K79
open PySem PySem.Spec PyProof.Rows L2 Sw
theorem getO_of {x : Option (List Str)} (h : x.isSome = true) : x = some (x.getD default) := by cases x with
  | none => cases h
  | some a => rfl
theorem not_none {x : Option (List Str)} (h : x.isSome = true) : x.isNone = false := by cases x with
  | none => cases h
  | some a => rfl
theorem pre_wr {p q r : Str} (a : okP p c_STANDINGS) (b : okP q c_DEEDS) (c : okP r c_RELATIONS) : pre_written ((m_words_of p c_STANDINGS).getD default, (m_words_of q c_DEEDS).getD default, (m_words_of r c_RELATIONS).getD default) := by
  obtain ⟨a1, a2⟩ := words_sub _ (getO_of a.2.2)
  obtain ⟨b1, b2⟩ := words_sub _ (getO_of b.2.2)
  obtain ⟨c1, c2⟩ := words_sub _ (getO_of c.2.2)
  exact ⟨Nat.le_trans a1 (by decide), fun s hs => Nat.le_trans (l_st s (a2 s hs)) (by decide), Nat.le_trans b1 (by decide), fun s hs => Nat.le_trans (l_de s (b2 s hs)) (by decide), Nat.le_trans c1 (by decide), fun s hs => Nat.le_trans (l_re s (c2 s hs)) (by decide)⟩
theorem pre_wo {p : Str} {ws : List Str} (a : okP p ws) (h : ws.length ≤ 100) : pre_words_of (p, ws) := ⟨a.1, h, a.2.1⟩
end K79
/-! text D2 -/
set_option maxHeartbeats 1000000
namespace K79
open PySem PySem.Spec PyProof.Rows L2 Sw
local macro_rules | `(tactic| walk_at "side") => `(tactic| first | omega | with_reducible assumption | with_reducible exact True.intro | (simp only [Str.length_append, l_sp, l_emp, l_rs, l_rl, l_rd, sizeLine_eq, List.length_map, List.length_cons, List.length_nil, List.length_append]; first | omega | with_reducible assumption | (have z1 := l_sg _ ‹_ ∈ c_STRONG›; omega)) | (simp only [l_all]; omega) | (rw [‹Txt.split _ _ = _›]; exact rfl) | assumption | decide)
section
variable {P : Program} {w : World} {K : PySem.W.Frag} {mg : Str → Option Value} {base : Heap}
/-! in_order -/
abbrev s_in_order : Stmt := top 22
abbrev N_in_order : List Str := ["chosen", "entry"]
theorem sc_in_order : FnScope N_in_order ["chosen"] (defScope s_in_order) := ⟨rfl, rfl, rfl, by decide +kernel, rfl, by decide +kernel, by decide +kernel⟩
def m_in_order (chosen : (List (Str × Bool))) : (List Str) := ((m_all_entries.filter (fun entry => (dHas chosen entry))).map (fun entry => entry))
abbrev in_in_order {w : World} (K : PySem.W.Frag) {mg : Str → Option Value} (T : Tx w K mg) (a : (List (Str × Bool))) : List SV := [(dat (tDic tBl) a)]
theorem fr_in_order {w : World} {K : PySem.W.Frag} {mg : Str → Option Value} {T : Tx w K mg} (a : (List (Str × Bool))) : ∀ s ∈ in_in_order K T a, Fr s := (fr_cons fr_dat fr_nil)
abbrev pre_in_order (a : (List (Str × Bool))) : Prop := True
abbrev sp_in_order {w : World} (K : PySem.W.Frag) {mg : Str → Option Value} (T : Tx w K mg) : Sp := spF (A := (List (Str × Bool))) (fun a => pre_in_order a) (fun a => in_in_order K T a) (fun a => (fre (oList tStr) (m_in_order a)))
theorem cl_in_order {T : Tx w K mg} {B : Bas} {ρ ρ1 : List SV} {as : TA} (a : (List (Str × Bool))) (h : EvA B ρ as (in_in_order K T a) ρ1) (hp : pre_in_order a) : EvE B ρ (tCl (sp_in_order K T) as) (fre (oList tStr) (m_in_order a)) ρ1 := ev_call (pre := fun a => pre_in_order a) (ins := fun a => in_in_order K T a) (res := fun a => (fre (oList tStr) (m_in_order a))) a h hp (fr_in_order a)
theorem g_in_order (T : Tx w K mg) : Gn P w K mg base 3 "in_order" (sp_in_order K T) := by
  have nd := sc_in_order.nd
  refine gn_of T.d_in_order sc_in_order (lenF fun _ => rfl) (fun _ _ _ _ _ _ us hl => match us, hl with | [_], _ => rfl) (fun f cdv A outer s H vs Q E hr h => ⟨_, (pss_one (ps_ret (pe_lc (own := [("entry", 1)]) (g := gName 1) (by rfl) nd (pi_list (pe_cl0 (g_all_entries T) hr (by decide) rfl)) (blkOk_by (own := [("entry", 1)]) (N := N_in_order) (sc := defScope s_in_order) (by decide +kernel)) (fun _ _ _ _ _ => pg_name (i := 1) nd rfl (Or.inl rfl)) (fun _ _ _ _ _ => (pts_one (pt_cmp (pc_din (hu_of hr) (pv 1) (pv 0))))) (fun _ _ _ _ _ => (pv 1))))), body_F h fun chosen B hp => ?_⟩)
  refine ex_ret (ev_lcL (U := tStr) (fun entry => (dHas chosen entry)) (fun entry => entry) (EvE.row (K := K) ((ev_call (ins := in_all_entries K T) () ea_nil trivial (fr_all_entries ()))).lst) (by show _ < 2; decide) (by walk_at "side") (fun entry m_entry => (et_B (ev_din (ev_var rfl) (ev_var rfl)))) (fun entry m_entry _ => (ev_var rfl))) ?_
  exact (congrArg (fun z => (fre (oList tStr) z)) (show ((m_all_entries.filter (fun entry => (dHas chosen entry))).map (fun entry => entry)) = m_in_order chosen from rfl))
/-! with_both -/
abbrev s_with_both : Stmt := top 24
abbrev N_with_both : List Str := ["first", "second", "chosen", "entry"]
theorem sc_with_both : FnScope N_with_both ["first", "second"] (defScope s_with_both) := ⟨rfl, rfl, rfl, by decide +kernel, rfl, by decide +kernel, by decide +kernel⟩
def m_with_both (first : (List Str)) (second : (List Str)) : (List Str) := (m_in_order (accD (fun _ => true) (fun entry => entry) (fun entry => true) (first ++ second)))
abbrev in_with_both {w : World} (K : PySem.W.Frag) {mg : Str → Option Value} (T : Tx w K mg) (a : (List Str) × (List Str)) : List SV := [(dat (tList tStr) a.1), (dat (tList tStr) a.2)]
theorem fr_with_both {w : World} {K : PySem.W.Frag} {mg : Str → Option Value} {T : Tx w K mg} (a : (List Str) × (List Str)) : ∀ s ∈ in_with_both K T a, Fr s := (fr_cons fr_dat (fr_cons fr_dat fr_nil))
abbrev pre_with_both (a : (List Str) × (List Str)) : Prop := a.1.length ≤ 1000 ∧ a.2.length ≤ 1000
abbrev sp_with_both {w : World} (K : PySem.W.Frag) {mg : Str → Option Value} (T : Tx w K mg) : Sp := spF (A := (List Str) × (List Str)) (fun a => pre_with_both a) (fun a => in_with_both K T a) (fun a => (fre (oList tStr) (m_with_both a.1 a.2)))
theorem cl_with_both {T : Tx w K mg} {B : Bas} {ρ ρ1 : List SV} {as : TA} (a : (List Str) × (List Str)) (h : EvA B ρ as (in_with_both K T a) ρ1) (hp : pre_with_both a) : EvE B ρ (tCl (sp_with_both K T) as) (fre (oList tStr) (m_with_both a.1 a.2)) ρ1 := ev_call (pre := fun a => pre_with_both a) (ins := fun a => in_with_both K T a) (res := fun a => (fre (oList tStr) (m_with_both a.1 a.2))) a h hp (fr_with_both a)
theorem g_with_both (T : Tx w K mg) : Gn P w K mg base 4 "with_both" (sp_with_both K T) := by
  have nd := sc_with_both.nd
  refine gn_of T.d_with_both sc_with_both (lenF fun _ => rfl) (fun _ _ _ _ _ _ us hl => match us, hl with | [_, _], _ => rfl) (fun f cdv A outer s H vs Q E hr h => ⟨_, (pss_cons (ps_setDc (i := 2) (own := [("entry", 3)]) (g := gName 3) (tt := tYes) (by rfl) nd rfl rfl (sw_trueD rfl rfl rfl (by decide +kernel)) (pi_list (pe_op op_cat (pv 0) (pv 1))) (blkOk_by (own := [("entry", 3)]) (N := N_with_both) (sc := defScope s_with_both) (by decide +kernel)) (fun _ _ _ _ _ => pg_name (i := 3) nd rfl (Or.inl rfl)) (fun _ _ _ _ _ => pts_nil) (fun _ _ _ _ _ => (pv 3)) (fun _ _ _ _ _ => pe_bl)) (pss_one (ps_ret (pe_cl (g_in_order T) hr (by decide) rfl (pa_cons (pv 2) pa_nil))))), body_F h fun a B hp => ?_⟩)
  obtain ⟨first, second⟩ := a
  have hp : first.length ≤ 1000 ∧ second.length ≤ 1000 := hp
  refine ex_seq (ex_asg (i := 2) ((fr_dcL (U := tBl) (fun _ => true) (fun entry => entry) (fun entry => true) (EvE.row (K := K) ((fr_cat (ev_var rfl) (ev_var rfl) (by walk_at "side"))).lst) (by show _ < 4; decide) (by walk_at "side") (fun entry m_entry => et_yes) (fun entry m_entry _ => (ev_var rfl)) (fun entry m_entry _ => ev_bl))).dic (by show _ < 4; decide) ?_)
  refine ex_ret (ev_call (ins := in_in_order K T) (accD (fun _ => true) (fun entry => entry) (fun entry => true) (first ++ second)) (ea_cons (ev_var rfl) ea_nil) trivial (fr_in_order (accD (fun _ => true) (fun entry => entry) (fun entry => true) (first ++ second)))) ?_
  exact (congrArg (fun z => (fre (oList tStr) z)) (show (m_in_order (accD (fun _ => true) (fun entry => entry) (fun entry => true) (first ++ second))) = m_with_both first second from rfl))
/-! live_among -/
abbrev s_live_among : Stmt := top 20
abbrev N_live_among : List Str := ["entries", "allowed", "entry"]
theorem sc_live_among : FnScope N_live_among ["entries"] (defScope s_live_among) := ⟨rfl, rfl, rfl, by decide +kernel, rfl, by decide +kernel, by decide +kernel⟩
def m_live_among (entries : (List Str)) : (List Str) := ((entries.filter (fun entry => (m_is_live entry (accD (fun _ => true) (fun entry => entry) (fun entry => true) entries)))).map (fun entry => entry))
abbrev in_live_among {w : World} (K : PySem.W.Frag) {mg : Str → Option Value} (T : Tx w K mg) (a : (List Str)) : List SV := [(dat (tList tStr) a)]
theorem fr_live_among {w : World} {K : PySem.W.Frag} {mg : Str → Option Value} {T : Tx w K mg} (a : (List Str)) : ∀ s ∈ in_live_among K T a, Fr s := (fr_cons fr_dat fr_nil)
abbrev pre_live_among (a : (List Str)) : Prop := a.length ≤ 1000 ∧ ∀ e ∈ a, e ∈ allE
abbrev sp_live_among {w : World} (K : PySem.W.Frag) {mg : Str → Option Value} (T : Tx w K mg) : Sp := spF (A := (List Str)) (fun a => pre_live_among a) (fun a => in_live_among K T a) (fun a => (fre (oList tStr) (m_live_among a)))
theorem cl_live_among {T : Tx w K mg} {B : Bas} {ρ ρ1 : List SV} {as : TA} (a : (List Str)) (h : EvA B ρ as (in_live_among K T a) ρ1) (hp : pre_live_among a) : EvE B ρ (tCl (sp_live_among K T) as) (fre (oList tStr) (m_live_among a)) ρ1 := ev_call (pre := fun a => pre_live_among a) (ins := fun a => in_live_among K T a) (res := fun a => (fre (oList tStr) (m_live_among a))) a h hp (fr_live_among a)
theorem g_live_among (T : Tx w K mg) : Gn P w K mg base 3 "live_among" (sp_live_among K T) := by
  have nd := sc_live_among.nd
  refine gn_of T.d_live_among sc_live_among (lenF fun _ => rfl) (fun _ _ _ _ _ _ us hl => match us, hl with | [_], _ => rfl) (fun f cdv A outer s H vs Q E hr h => ⟨_, (pss_cons (ps_set (i := 1) nd rfl (by first | exact Or.inl rfl | exact Or.inr rfl) (pe_dc (own := [("entry", 2)]) (g := gName 2) (tt := tYes) (by rfl) nd (pi_list (pv 0)) (blkOk_by (own := [("entry", 2)]) (N := N_live_among) (sc := defScope s_live_among) (by decide +kernel)) (fun _ _ _ _ _ => pg_name (i := 2) nd rfl (Or.inl rfl)) (fun _ _ _ _ _ => pts_nil) (fun _ _ _ _ _ => (pv 2)) (fun _ _ _ _ _ => pe_bl))) (pss_one (ps_ret (pe_lc (own := [("entry", 2)]) (g := gName 2) (by rfl) nd (pi_list (pv 0)) (blkOk_by (own := [("entry", 2)]) (N := N_live_among) (sc := defScope s_live_among) (by decide +kernel)) (fun _ _ _ _ _ => pg_name (i := 2) nd rfl (Or.inl rfl)) (fun _ _ _ _ _ => (pts_one (pt_val (pe_cl (g_is_live T) hr (by decide) rfl (pa_cons (pv 2) (pa_cons (pv 1) pa_nil)))))) (fun _ _ _ _ _ => (pv 2)))))), body_F h fun entries B hp => ?_⟩)
  have hp : entries.length ≤ 1000 ∧ ∀ e ∈ entries, e ∈ allE := hp
  refine ex_seq (ex_asg (i := 1) ((fr_dcL (U := tBl) (fun _ => true) (fun entry => entry) (fun entry => true) (EvE.row (K := K) (ev_var rfl)) (by show _ < 3; decide) (by first | exact hp.2 _ m_entry | walk_at "side") (fun entry m_entry => et_yes) (fun entry m_entry _ => (ev_var rfl)) (fun entry m_entry _ => ev_bl))).dic (by show _ < 3; decide) ?_)
  refine ex_ret (ev_lcL (U := tStr) (fun entry => (m_is_live entry (accD (fun _ => true) (fun entry => entry) (fun entry => true) entries))) (fun entry => entry) (EvE.row (K := K) (ev_var rfl)) (by show _ < 3; decide) (by first | exact hp.2 _ m_entry | walk_at "side") (fun entry m_entry => (et_B (ev_call (ins := in_is_live K T) (entry, (accD (fun _ => true) (fun entry => entry) (fun entry => true) entries)) (ea_cons (ev_var rfl) (ea_cons (ev_var rfl) ea_nil)) (by first | exact hp.2 _ m_entry | walk_at "side") (fr_is_live (entry, (accD (fun _ => true) (fun entry => entry) (fun entry => true) entries)))))) (fun entry m_entry _ => (ev_var rfl))) ?_
  exact (congrArg (fun z => (fre (oList tStr) z)) (show ((entries.filter (fun entry => (m_is_live entry (accD (fun _ => true) (fun entry => entry) (fun entry => true) entries)))).map (fun entry => entry)) = m_live_among entries from rfl))
end
end K79
/-! text D3 -/
set_option maxHeartbeats 1000000
namespace K79
open PySem PySem.Spec PyProof.Rows L2 Sw
local macro_rules | `(tactic| walk_at "side") => `(tactic| first | omega | with_reducible assumption | with_reducible exact True.intro | (simp only [Str.length_append, l_sp, l_emp, l_rs, l_rl, l_rd, sizeLine_eq, List.length_map, List.length_cons, List.length_nil, List.length_append]; first | omega | with_reducible assumption | (have z1 := l_sg _ ‹_ ∈ c_STRONG›; omega)) | (simp only [l_all]; omega) | (rw [‹Txt.split _ _ = _›]; exact rfl) | assumption | decide)
section
variable {P : Program} {w : World} {K : PySem.W.Frag} {mg : Str → Option Value} {base : Heap}
/-! expand -/
abbrev s_expand : Stmt := top 17
abbrev N_expand : List Str := ["pattern", "parts", "standings", "deeds", "relations"]
theorem sc_expand : FnScope N_expand ["pattern"] (defScope s_expand) := ⟨rfl, rfl, rfl, by decide +kernel, rfl, by decide +kernel, by decide +kernel⟩
def m_expand (pattern : Str) : (List Str) := (if (!decide (((Txt.split pattern (" " : Str)).length : Int) = 3)) = true then default else (if (((m_words_of (ixD (Txt.split pattern (" " : Str)) 0) c_STANDINGS)).isNone || (((m_words_of (ixD (Txt.split pattern (" " : Str)) 1) c_DEEDS)).isNone || ((m_words_of (ixD (Txt.split pattern (" " : Str)) 2) c_RELATIONS)).isNone)) = true then default else (m_written (((m_words_of (ixD (Txt.split pattern (" " : Str)) 0) c_STANDINGS)).getD default) (((m_words_of (ixD (Txt.split pattern (" " : Str)) 1) c_DEEDS)).getD default) (((m_words_of (ixD (Txt.split pattern (" " : Str)) 2) c_RELATIONS)).getD default))))
abbrev in_expand {w : World} (K : PySem.W.Frag) {mg : Str → Option Value} (T : Tx w K mg) (a : Str) : List SV := [(dat tStr a)]
theorem fr_expand {w : World} {K : PySem.W.Frag} {mg : Str → Option Value} {T : Tx w K mg} (a : Str) : ∀ s ∈ in_expand K T a, Fr s := (fr_cons fr_dat fr_nil)
abbrev pre_expand (a : Str) : Prop := preX a
abbrev sp_expand {w : World} (K : PySem.W.Frag) {mg : Str → Option Value} (T : Tx w K mg) : Sp := spF (A := Str) (fun a => pre_expand a) (fun a => in_expand K T a) (fun a => (fre (oList tStr) (m_expand a)))
theorem cl_expand {T : Tx w K mg} {B : Bas} {ρ ρ1 : List SV} {as : TA} (a : Str) (h : EvA B ρ as (in_expand K T a) ρ1) (hp : pre_expand a) : EvE B ρ (tCl (sp_expand K T) as) (fre (oList tStr) (m_expand a)) ρ1 := ev_call (pre := fun a => pre_expand a) (ins := fun a => in_expand K T a) (res := fun a => (fre (oList tStr) (m_expand a))) a h hp (fr_expand a)
theorem g_expand (T : Tx w K mg) : Gn P w K mg base 2 "expand" (sp_expand K T) := by
  have nd := sc_expand.nd
  refine gn_of T.d_expand sc_expand (lenF fun _ => rfl) (fun _ _ _ _ _ _ us hl => match us, hl with | [_], _ => rfl) (fun f cdv A outer s H vs Q E hr h => ⟨_, (pss_cons (ps_set (i := 1) nd rfl (by first | exact Or.inl rfl | exact Or.inr rfl) (pe_split (pv 0) pe_str)) (pss_cons (ps_if (pt_cmpR op_ne (pe_callB call_len_seq (by rfl) T.n_len PySem.boot_len (pa_cons (pv 1) pa_nil)) pe_int (nomark _)) (pss_one ps_never) pss_nil) (pss_cons (ps_set (i := 2) nd rfl (by first | exact Or.inl rfl | exact Or.inr rfl) (pe_cl (g_words_of T) hr (by decide) rfl (pa_cons (pe_ix ix_list (pv 1) pe_int (fun _ _ => rfl)) (pa_cons (pe_gc rfl T.g_STANDINGS) pa_nil)))) (pss_cons (ps_set (i := 3) nd rfl (by first | exact Or.inl rfl | exact Or.inr rfl) (pe_cl (g_words_of T) hr (by decide) rfl (pa_cons (pe_ix ix_list (pv 1) pe_int (fun _ _ => rfl)) (pa_cons (pe_gc rfl T.g_DEEDS) pa_nil)))) (pss_cons (ps_set (i := 4) nd rfl (by first | exact Or.inl rfl | exact Or.inr rfl) (pe_cl (g_words_of T) hr (by decide) rfl (pa_cons (pe_ix ix_list (pv 1) pe_int (fun _ _ => rfl)) (pa_cons (pe_gc rfl T.g_RELATIONS) pa_nil)))) (pss_cons (ps_if (PW.pt (pw_or (pt_cmpR op_isN (pv 2) pe_non (nomark _)) (pw_or (pt_cmpR op_isN (pv 3) pe_non (nomark _)) (pw_or1 (pt_cmpR op_isN (pv 4) pe_non (nomark _)))))) (pss_one ps_never) pss_nil) (pss_one (ps_ret (pe_cl (g_writtenL T) hr (by decide) rfl (pa_cons (pv 2) (pa_cons (pv 3) (pa_cons (pv 4) pa_nil)))))))))))), body_F h fun pattern B hp => ?_⟩)
  have hp : preX pattern := hp
  obtain ⟨hpl, a, b, c, hsp, oa, ob, oc⟩ := hp
  have oa : okP (ixD (Txt.split pattern (" " : Str)) 0) c_STANDINGS := by rw [hsp]; exact oa
  have ob : okP (ixD (Txt.split pattern (" " : Str)) 1) c_DEEDS := by rw [hsp]; exact ob
  have oc : okP (ixD (Txt.split pattern (" " : Str)) 2) c_RELATIONS := by rw [hsp]; exact oc
  refine ex_seq (ex_asg (i := 1) ((fr_split rfl (ev_var rfl) ev_str (by first | rfl | decide +kernel) (by first | exact pre_wo oa (by decide) | exact pre_wo ob (by decide) | exact pre_wo oc (by decide) | exact pre_wr oa ob oc | exact getO_of oa.2.2 | exact getO_of ob.2.2 | exact getO_of oc.2.2 | walk_at "side"))).lst (by show _ < 5; decide) ?_)
  refine ex_seq (ex_if (et_test (ev_neI (ev_lenL (ea_cons (EvE.row (K := K) (ev_var rfl)) ea_nil)) ev_int)) (fun h1 => ?_) (fun h1 => ?_))
  · exact (by first | (exfalso; revert h1; rw [hsp]; simp; done) | (exfalso; revert h2; rw [not_none oa.2.2, not_none ob.2.2, not_none oc.2.2]; simp; done))
  · refine ex_next ?_
    refine ex_seq (ex_asg (i := 2) (ev_call (ins := in_words_of K T) ((ixD (Txt.split pattern (" " : Str)) 0), c_STANDINGS) (ea_cons (ev_ixL (a := (ixD (Txt.split pattern (" " : Str)) 0)) (EvE.row (K := K) (ev_var rfl)) ev_int (by first | exact pre_wo oa (by decide) | exact pre_wo ob (by decide) | exact pre_wo oc (by decide) | exact pre_wr oa ob oc | exact getO_of oa.2.2 | exact getO_of ob.2.2 | exact getO_of oc.2.2 | walk_at "side")) (ea_cons (ev_sc T.v_STANDINGS) ea_nil)) (by first | exact pre_wo oa (by decide) | exact pre_wo ob (by decide) | exact pre_wo oc (by decide) | exact pre_wr oa ob oc | exact getO_of oa.2.2 | exact getO_of ob.2.2 | exact getO_of oc.2.2 | walk_at "side") (fr_words_of ((ixD (Txt.split pattern (" " : Str)) 0), c_STANDINGS))) (by show _ < 5; decide) ?_)
    refine ex_seq (ex_asg (i := 3) (ev_call (ins := in_words_of K T) ((ixD (Txt.split pattern (" " : Str)) 1), c_DEEDS) (ea_cons (ev_ixL (a := (ixD (Txt.split pattern (" " : Str)) 1)) (EvE.row (K := K) (ev_var rfl)) ev_int (by first | exact pre_wo oa (by decide) | exact pre_wo ob (by decide) | exact pre_wo oc (by decide) | exact pre_wr oa ob oc | exact getO_of oa.2.2 | exact getO_of ob.2.2 | exact getO_of oc.2.2 | walk_at "side")) (ea_cons (ev_sc T.v_DEEDS) ea_nil)) (by first | exact pre_wo oa (by decide) | exact pre_wo ob (by decide) | exact pre_wo oc (by decide) | exact pre_wr oa ob oc | exact getO_of oa.2.2 | exact getO_of ob.2.2 | exact getO_of oc.2.2 | walk_at "side") (fr_words_of ((ixD (Txt.split pattern (" " : Str)) 1), c_DEEDS))) (by show _ < 5; decide) ?_)
    refine ex_seq (ex_asg (i := 4) (ev_call (ins := in_words_of K T) ((ixD (Txt.split pattern (" " : Str)) 2), c_RELATIONS) (ea_cons (ev_ixL (a := (ixD (Txt.split pattern (" " : Str)) 2)) (EvE.row (K := K) (ev_var rfl)) ev_int (by first | exact pre_wo oa (by decide) | exact pre_wo ob (by decide) | exact pre_wo oc (by decide) | exact pre_wr oa ob oc | exact getO_of oa.2.2 | exact getO_of ob.2.2 | exact getO_of oc.2.2 | walk_at "side")) (ea_cons (ev_sc T.v_RELATIONS) ea_nil)) (by first | exact pre_wo oa (by decide) | exact pre_wo ob (by decide) | exact pre_wo oc (by decide) | exact pre_wr oa ob oc | exact getO_of oa.2.2 | exact getO_of ob.2.2 | exact getO_of oc.2.2 | walk_at "side") (fr_words_of ((ixD (Txt.split pattern (" " : Str)) 2), c_RELATIONS))) (by show _ < 5; decide) ?_)
    refine ex_seq (ex_if (et_or (et_test (ev_isN (ev_var rfl))) (fun _ => (et_or (et_test (ev_isN (ev_var rfl))) (fun _ => (et_test (ev_isN (ev_var rfl))))))) (fun h2 => ?_) (fun h2 => ?_))
    · exact (by first | (exfalso; revert h1; rw [hsp]; simp; done) | (exfalso; revert h2; rw [not_none oa.2.2, not_none ob.2.2, not_none oc.2.2]; simp; done))
    · refine ex_next ?_
      refine ex_ret (ev_call (ins := in_writtenL K T) ((((m_words_of (ixD (Txt.split pattern (" " : Str)) 0) c_STANDINGS)).getD default), (((m_words_of (ixD (Txt.split pattern (" " : Str)) 1) c_DEEDS)).getD default), (((m_words_of (ixD (Txt.split pattern (" " : Str)) 2) c_RELATIONS)).getD default)) (ea_cons (EvE.getO (ev_var rfl) (by first | exact pre_wo oa (by decide) | exact pre_wo ob (by decide) | exact pre_wo oc (by decide) | exact pre_wr oa ob oc | exact getO_of oa.2.2 | exact getO_of ob.2.2 | exact getO_of oc.2.2 | walk_at "side")) (ea_cons (EvE.getO (ev_var rfl) (by first | exact pre_wo oa (by decide) | exact pre_wo ob (by decide) | exact pre_wo oc (by decide) | exact pre_wr oa ob oc | exact getO_of oa.2.2 | exact getO_of ob.2.2 | exact getO_of oc.2.2 | walk_at "side")) (ea_cons (EvE.getO (ev_var rfl) (by first | exact pre_wo oa (by decide) | exact pre_wo ob (by decide) | exact pre_wo oc (by decide) | exact pre_wr oa ob oc | exact getO_of oa.2.2 | exact getO_of ob.2.2 | exact getO_of oc.2.2 | walk_at "side")) ea_nil))) (by first | exact pre_wo oa (by decide) | exact pre_wo ob (by decide) | exact pre_wo oc (by decide) | exact pre_wr oa ob oc | exact getO_of oa.2.2 | exact getO_of ob.2.2 | exact getO_of oc.2.2 | walk_at "side") (fr_writtenL ((((m_words_of (ixD (Txt.split pattern (" " : Str)) 0) c_STANDINGS)).getD default), (((m_words_of (ixD (Txt.split pattern (" " : Str)) 1) c_DEEDS)).getD default), (((m_words_of (ixD (Txt.split pattern (" " : Str)) 2) c_RELATIONS)).getD default)))) ?_
      exact (congrArg (fun z => (fre (oList tStr) z)) (show (m_written (((m_words_of (ixD (Txt.split pattern (" " : Str)) 0) c_STANDINGS)).getD default) (((m_words_of (ixD (Txt.split pattern (" " : Str)) 1) c_DEEDS)).getD default) (((m_words_of (ixD (Txt.split pattern (" " : Str)) 2) c_RELATIONS)).getD default)) = m_expand pattern from by unfold m_expand; rw [if_neg (nt h1), if_neg (nt h2)]))
/-! gathered_entries -/
abbrev s_gathered_entries : Stmt := top 23
abbrev N_gathered_entries : List Str := ["patterns", "known", "entry", "chosen", "pattern"]
theorem sc_gathered_entries : FnScope N_gathered_entries ["patterns"] (defScope s_gathered_entries) := ⟨rfl, rfl, rfl, by decide +kernel, rfl, by decide +kernel, by decide +kernel⟩
def st_gathered_entries_2 (s2 : (List (Str × Bool))) (entry : Str) : (List (Str × Bool)) := (dPut s2 entry true)
def st_gathered_entries_1 (s1 : (List (Str × Bool))) (pattern : Str) : (List (Str × Bool)) := ((if (dHas (accD (fun _ => true) (fun entry => entry) (fun entry => true) m_all_entries) pattern) = true then ([pattern] : List Str) else (m_expand pattern)).foldl st_gathered_entries_2 s1)
def m_gathered_entries (patterns : (List Str)) : (List Str) := ((((accD (fun _ => true) (fun entry => entry) (fun entry => true) m_all_entries).map (·.1)).filter (fun entry => (dHas (patterns.foldl st_gathered_entries_1 ([] : List (Str × Bool))) entry))).map (fun entry => entry))
theorem len_w (p : Str) (ws : List Str) : ((m_words_of p ws).getD default).length ≤ ws.length := by
  cases e : m_words_of p ws with
  | none => exact Nat.zero_le _
  | some x => exact (words_sub x e).1
theorem len_wr {a b c : List Str} (h1 : a.length ≤ 3) (h2 : b.length ≤ 7) (h3 : c.length ≤ 5) : (m_written a b c).length ≤ 105 := by
  have e1 : ∀ x ∈ a, (b.flatMap fun y => c.map fun z => ent x y z).length ≤ 35 := fun x _ => by
    have := flat_len (n := 5) (f := fun y => c.map fun z => ent x y z) (xs := b) fun y _ => by rw [List.length_map]; exact h3
    omega
  have e2 := flat_len e1
  unfold m_written
  omega
theorem len_x (p : Str) : (m_expand p).length ≤ 105 := by
  unfold m_expand
  split
  · exact Nat.zero_le _
  · split
    · exact Nat.zero_le _
    · exact len_wr (len_w _ _) (len_w _ _) (len_w _ _)
theorem len_g0 (p : Str) : (if (dHas (accD (fun _ => true) (fun entry => entry) (fun entry => true) m_all_entries) p) = true then ([p] : List Str) else (m_expand p)).length ≤ 105 := by
  split
  · show 1 ≤ 105; decide
  · exact len_x p
theorem len_put {α : Type} {k : Str} {v : α} : ∀ {s : List (Str × α)}, (dPut s k v).length ≤ s.length + 1 := fun {s} => by
  unfold dPut
  split <;> simp
theorem len_g2 : ∀ (xs : List Str) (s : List (Str × Bool)), (xs.foldl st_gathered_entries_2 s).length ≤ s.length + xs.length
  | [], s => Nat.le_refl _
  | x :: xs, s => by
    have h1 := len_g2 xs (st_gathered_entries_2 s x)
    have h2 : (st_gathered_entries_2 s x).length ≤ s.length + 1 := len_put
    rw [List.foldl_cons, List.length_cons]
    omega
theorem len_g1 : ∀ (xs : List Str) (s : List (Str × Bool)), (xs.foldl st_gathered_entries_1 s).length ≤ s.length + 105 * xs.length
  | [], s => by simp
  | x :: xs, s => by
    have h1 := len_g1 xs (st_gathered_entries_1 s x)
    have h2 : (st_gathered_entries_1 s x).length ≤ s.length + 105 := by
      have h3 := len_g2 (if (dHas (accD (fun _ => true) (fun entry => entry) (fun entry => true) m_all_entries) x) = true then ([x] : List Str) else (m_expand x)) s
      have h4 := len_g0 x
      unfold st_gathered_entries_1
      omega
    rw [List.foldl_cons, List.length_cons]
    omega
theorem known_has (p : Str) (h : p ∈ allE) : dHas (accD (fun _ => true) (fun entry => entry) (fun entry => true) m_all_entries) p = true := by
  rw [dHas_acc]
  rw [m_all_eq]
  simpa using h
abbrev in_gathered_entries {w : World} (K : PySem.W.Frag) {mg : Str → Option Value} (T : Tx w K mg) (a : (List Str)) : List SV := [(dat (tTupL K tStr) a)]
theorem fr_gathered_entries {w : World} {K : PySem.W.Frag} {mg : Str → Option Value} {T : Tx w K mg} (a : (List Str)) : ∀ s ∈ in_gathered_entries K T a, Fr s := (fr_cons fr_dat fr_nil)
abbrev pre_gathered_entries (a : (List Str)) : Prop := a.length ≤ 1000 ∧ ∀ p ∈ a, p ∈ allE ∨ preX p
abbrev sp_gathered_entries {w : World} (K : PySem.W.Frag) {mg : Str → Option Value} (T : Tx w K mg) : Sp := spF (A := (List Str)) (fun a => pre_gathered_entries a) (fun a => in_gathered_entries K T a) (fun a => (fre (oList tStr) (m_gathered_entries a)))
theorem cl_gathered_entries {T : Tx w K mg} {B : Bas} {ρ ρ1 : List SV} {as : TA} (a : (List Str)) (h : EvA B ρ as (in_gathered_entries K T a) ρ1) (hp : pre_gathered_entries a) : EvE B ρ (tCl (sp_gathered_entries K T) as) (fre (oList tStr) (m_gathered_entries a)) ρ1 := ev_call (pre := fun a => pre_gathered_entries a) (ins := fun a => in_gathered_entries K T a) (res := fun a => (fre (oList tStr) (m_gathered_entries a))) a h hp (fr_gathered_entries a)
theorem g_gathered_entries (T : Tx w K mg) : Gn P w K mg base 3 "gathered_entries" (sp_gathered_entries K T) := by
  have nd := sc_gathered_entries.nd
  refine gn_of T.d_gathered_entries sc_gathered_entries (lenF fun _ => rfl) (fun _ _ _ _ _ _ us hl => match us, hl with | [_], _ => rfl) (fun f cdv A outer s H vs Q E hr h => ⟨_, (pss_cons (ps_setDc (i := 1) (own := [("entry", 2)]) (g := gName 2) (tt := tYes) (by rfl) nd rfl rfl (sw_trueD rfl rfl rfl (by decide +kernel)) (pi_list (pe_cl0 (g_all_entries T) hr (by decide) rfl)) (blkOk_by (own := [("entry", 2)]) (N := N_gathered_entries) (sc := defScope s_gathered_entries) (by decide +kernel)) (fun _ _ _ _ _ => pg_name (i := 2) nd rfl (Or.inl rfl)) (fun _ _ _ _ _ => pts_nil) (fun _ _ _ _ _ => (pv 2)) (fun _ _ _ _ _ => pe_bl)) (pss_cons (ps_set (i := 3) nd rfl (by first | exact Or.inl rfl | exact Or.inr rfl) pe_dnewK) (pss_cons (ps_for PassesOwn.never rfl (pi_tup (pv 0)) (pg_name (i := 4) nd rfl (by first | exact Or.inl rfl | exact Or.inr rfl)) (pss_one (ps_for PassesOwn.never rfl (pi_list (pe_ifExp (pt_cmp (pc_din (hu_of hr) (pv 4) (pv 1))) (pe_lst (pa_cons (pv 4) pa_nil)) (pe_cl (g_expand T) hr (by decide) rfl (pa_cons (pv 4) pa_nil)))) (pg_name (i := 2) nd rfl (by first | exact Or.inl rfl | exact Or.inr rfl)) (pss_one (ps_dput (hu_of hr) (pv 3) (pv 2) pe_bl rfl))))) (pss_one (ps_ret (pe_lock (pe_lc (own := [("entry", 2)]) (g := gName 2) (by rfl) nd (pi_keys (pv 1)) (blkOk_by (own := [("entry", 2)]) (N := N_gathered_entries) (sc := defScope s_gathered_entries) (by decide +kernel)) (fun _ _ _ _ _ => pg_name (i := 2) nd rfl (Or.inl rfl)) (fun _ _ _ _ _ => (pts_one (pt_cmp (pc_din (hu_of hr) (pv 2) (pv 3))))) (fun _ _ _ _ _ => (pv 2))))))))), body_F h fun patterns B hp => ?_⟩)
  have hp : patterns.length ≤ 1000 ∧ ∀ p ∈ patterns, p ∈ allE ∨ preX p := hp
  refine ex_seq (ex_asgO (i := 1) (fr_dcL (U := tBl) (fun _ => true) (fun entry => entry) (fun entry => true) (EvE.row (K := K) ((ev_call (ins := in_all_entries K T) () ea_nil trivial (fr_all_entries ()))).lst) (by show _ < 5; decide) (by first | exact (hp.2 _ m1).resolve_left (fun z => by rw [known_has _ z] at h; cases h) | walk_at "side") (fun entry m_entry => et_yes) (fun entry m_entry _ => (ev_var rfl)) (fun entry m_entry _ => ev_bl)) (by show _ < 5; decide) oat_dic (fun p_known hp_known => ?_))
  refine ex_seq (ex_asgO (i := 3) (fr_dnew (T := tBl)) (by show _ < 5; decide) oat_dic (fun p_chosen hp_chosen => ?_))
  refine ex_seq (ex_forTF (S := (List (Str × Bool))) (fun s1 : (List (Str × Bool)) => [(dat (tTupL K tStr) patterns), (own (.ref p_known) (oDic tBl) (accD (fun _ => true) (fun entry => entry) (fun entry => true) m_all_entries)), any, (own (.ref p_chosen) (oDic tBl) s1), any]) st_gathered_entries_1 ([] : List (Str × Bool)) (ev_var rfl) (.keep (.keep (.forget (.keep (.forget EntL.nil))))) (fun _ => by show _ < 5; decide) (fun pre post pattern hx => ?_) ?_)
  · generalize hS : pre.foldl st_gathered_entries_1 ([] : List (Str × Bool)) = s1
    have i1 : s1.length ≤ 105 * pre.length := by rw [← hS]; have := len_g1 pre ([] : List (Str × Bool)); simpa using this
    have q1 : pre.length < 1001 := by have := hp.1; rw [hx] at this; simp at this; omega
    have m1 : pattern ∈ patterns := by rw [hx]; simp
    refine ex_forLF (S := (List (Str × Bool))) (fun s2 : (List (Str × Bool)) => [(dat (tTupL K tStr) patterns), (own (.ref p_known) (oDic tBl) (accD (fun _ => true) (fun entry => entry) (fun entry => true) m_all_entries)), any, (own (.ref p_chosen) (oDic tBl) s2), (dat tStr pattern)]) st_gathered_entries_2 s1 (EvE.row (K := K) (ev_if (R := (dat (tList tStr) (if (dHas (accD (fun _ => true) (fun entry => entry) (fun entry => true) m_all_entries) pattern) = true then ([pattern] : List Str) else (m_expand pattern)))) (et_B (ev_dinO (ev_var rfl) (ev_varO rfl) (m := 1) rfl)) (fun h => EvE.is ((fr_lst (T := tStr) (xs := ([pattern] : List Str)) (ea_cons (ev_var rfl) ea_nil) (by show 1 ≤ sizeLine; decide))).lst (by rw [if_pos h])) (fun h => EvE.is ((ev_call (ins := in_expand K T) pattern (ea_cons (ev_var rfl) ea_nil) (by first | exact (hp.2 _ m1).resolve_left (fun z => by rw [known_has _ z] at h; cases h) | walk_at "side") (fr_expand pattern))).lst (by rw [if_neg (by rw [h]; exact Bool.false_ne_true)])))) (.keep (.keep (.forget (.keep (.keep EntL.nil))))) (fun _ => by show _ < 5; decide) (fun pre post entry hx => ?_) ?_
    · generalize hS : pre.foldl st_gathered_entries_2 s1 = s2
      have i2 : s2.length ≤ s1.length + pre.length := by rw [← hS]; exact len_g2 pre s1
      have q2 : pre.length ≤ 105 := by have h5 := len_g0 pattern; rw [hx] at h5; simp at h5; omega
      refine ex_dput (i := 3) ev_bl rfl (ev_var rfl) rfl (by first | exact (hp.2 _ m1).resolve_left (fun z => by rw [known_has _ z] at h; cases h) | walk_at "side") ?_
      exact (.keep (.keep (.forget (.keepE (congrArg (fun z => (own (.ref p_chosen) (oDic tBl) z)) (show (dPut s2 entry true) = (st_gathered_entries_2 s2 entry) from rfl)) (.keep EntL.nil)))))
    exact (.keep (.keep (.forget (.keepE (congrArg (fun z => (own (.ref p_chosen) (oDic tBl) z)) (show ((if (dHas (accD (fun _ => true) (fun entry => entry) (fun entry => true) m_all_entries) pattern) = true then ([pattern] : List Str) else (m_expand pattern)).foldl st_gathered_entries_2 s1) = (st_gathered_entries_1 s1 pattern) from rfl)) (.forget EntL.nil)))))
  refine ex_ret (fr_lcK (m := 1) (U := tStr) (fun entry => (dHas (patterns.foldl st_gathered_entries_1 ([] : List (Str × Bool))) entry)) (fun entry => entry) (by show _ < 5; decide) rfl (by first | exact (hp.2 _ m1).resolve_left (fun z => by rw [known_has _ z] at h; cases h) | walk_at "side") (fun entry m_entry => (et_B (ev_dinO (ev_var rfl) (ev_varO rfl) (m := 3) rfl))) (fun entry m_entry _ => (ev_var rfl))) ?_
  exact (congrArg (fun z => (fre (oList tStr) z)) (show ((((accD (fun _ => true) (fun entry => entry) (fun entry => true) m_all_entries).map (·.1)).filter (fun entry => (dHas (patterns.foldl st_gathered_entries_1 ([] : List (Str × Bool))) entry))).map (fun entry => entry)) = m_gathered_entries patterns from rfl))
end
end K79
/-! text D4 -/
set_option maxHeartbeats 1000000
/-! D4: the classes of rules and promises. -/
namespace Sw
open PySem PySem.Spec PyProof.Rows L2
section
variable {B : Bas} {ρ ρ1 : List SV} {as : TA} {α : Type} {T : Ty α} {K : PySem.W.Frag} {n : Nat}
theorem ex_ref {N : Kn} {t : TS} {i : Nat} {x : V} {κ : Type} {O : OTy κ} {a : κ} (h : ρ[i]? = some (own x O a)) (hO : ∀ F H x fp, O.rep F H x fp a → ∃ p, x = .ref p ∧ fp = [p]) (k : ∀ p, x = .ref p → ExS B ρ t N) : ExS B ρ t N := fun H σ τ D st => by
  obtain ⟨F, fs, fp, c, hr⟩ := own_at st.len h st.core
  obtain ⟨p, e, _⟩ := hO _ _ _ _ hr
  exact k p e H σ τ D st
theorem ev_iter {xs : List α} (h : EvA B ρ as [dat (tList T) xs] ρ1) : EvE B ρ (tCB (ItX.rIterN K n) as) (itS T xs) ρ1 := fun H σ τ Q st q =>
  h H σ τ _ st fun vs H1 hl st1 => by
    match vs, hl, st1 with
    | [v], _, st1 =>
      have c : Core B H1 ((some v, dat (tList T) xs) :: (τ ++ σ.zip ρ1)) := st1.core
      obtain ⟨F, x, m, e1, p, vs, e2, hp, hr⟩ := c.d1
      cases e1; cases e2
      refine ⟨p, vs, rfl, .inl (.inl (m _ _ hp)), fun it hit _ => q _ _ ⟨st1.len, ?_⟩⟩
      have c2 := c.allocO (o := ItO p it 0) (s := itS T xs) hit fun F ⟨fs, cc⟩ hio => by
        obtain ⟨fp, _, _, x, e1, p', vs', e2, hp', hr'⟩ := Sl.mem (e := (some (.ref p), dat (tList T) xs)) cc.sl List.mem_cons_self
        cases e1; cases e2
        exact ⟨it, p, vs', rfl, rfl, upd_same, hio, hp', hr'⟩
      exact c2.swap.cut
end
end Sw
namespace K79
open PySem PySem.Spec PyProof.Rows L2 Sw ItX
abbrev dR (rows : List Str) : List (Str × Dt) := [("_rows", dt (tList tStr) rows)]
abbrev dP (x : Str × Str) : List (Str × Dt) := [("_look", dt tStr x.1), ("_reserved", dt tStr x.2)]
section
variable {P : Program} {w : World} {K : PySem.W.Frag} {mg : Str → Option Value} {base : Heap} (T : Tx w K mg)
abbrev tR : Ty (List (Str × Dt)) := tIns T.cR
abbrev tP : Ty (List (Str × Dt)) := tIns T.cP
/-! Rule.__init__ -/
abbrev N_R_init : List Str := ["self", "patterns"]
theorem sc_R_init : FnScope N_R_init ["self", "patterns"] (defScope (mem 29 1)) := ⟨rfl, rfl, rfl, by decide +kernel, rfl, by decide +kernel, by decide +kernel⟩
abbrev sp_R_init : Sp := spM (A := List Str) (fun a => pre_gathered_entries a) (oIns T.cR) (fun _ => []) (fun a => [dat (tTupL K tStr) a]) (fun a => dR (m_gathered_entries a)) (fun _ => dat tNon ())
theorem g_R_init : Cn P w K mg base 4 "Rule" T.cR (spStar 1 (sp_R_init T)) := by
  have nd := sc_R_init.nd
  refine ins_of (ps := ["self"]) T.m_R_init T.g_cR sc_R_init (fun _ _ _ _ _ _ us rest hl => match us, hl, rest with | [_], _, [] => rfl | [_], _, _ :: _ => rfl) (fun f cdv A outer s H vs Q E hr h => ⟨_, (pss_one (ps_fld (pv 0) (pe_cl (g_gathered_entries T) hr (by decide) rfl (pa_cons (pv 1) pa_nil)) rfl)), body_M h fun a B x hp => ?_⟩)
  refine ex_ref (i := 0) rfl oat_ins fun q hq => ?_
  subst hq
  refine ex_fld (i := 0) (p := q) (ds := []) (cl_gathered_entries a (ea_cons (ev_var rfl) ea_nil) hp).lst rfl T.clR T.na_rows (by show 0 < 1000; decide) ?_
  exact ⟨rfl, rfl⟩
/-! Rule.full -/
abbrev N_R_full : List Str := []
theorem sc_R_full : FnScope N_R_full [] (defScope (mem 29 4)) := ⟨rfl, rfl, rfl, by decide +kernel, rfl, by decide +kernel, by decide +kernel⟩
theorem pre_star : pre_gathered_entries [("* * *" : Str)] := ⟨by decide, fun p hp => .inr (by
  rw [List.mem_singleton.mp hp]
  exact ⟨by decide +kernel, "*", "*", "*", by decide +kernel, ⟨by decide +kernel, by decide +kernel, by decide +kernel⟩, ⟨by decide +kernel, by decide +kernel, by decide +kernel⟩, ⟨by decide +kernel, by decide +kernel, by decide +kernel⟩⟩)⟩
abbrev sp_R_full : Sp := spF (A := Unit) (fun _ => True) (fun _ => []) (fun _ => fre (oIns T.cR) (dR (m_gathered_entries ["* * *"])))
theorem g_R_full : Stn P w K mg base 6 T.cR "full" (sp_R_full T) := by
  have nd := sc_R_full.nd
  refine st_of T.m_R_full sc_R_full (lenF fun _ => rfl) (fun _ _ _ _ _ _ us hl => match us, hl with | [], _ => rfl) (fun f cdv A outer s H vs Q E hr h => ⟨_, (pss_one (ps_ret (pe_mkR (g_R_init T) hr (by decide) rfl (pa_cons pe_str pa_nil)))), body_F h fun a B hp => ?_⟩)
  refine ex_ret (fr_makeA (T := tStr) (xs := [("* * *" : Str)]) [("* * *" : Str)] rfl (ea_cons ev_str ea_nil) pre_star (by show 1 ≤ sizeLine; decide)) ?_
  rfl
/-! Rule.live -/
abbrev N_R_live : List Str := ["self", "rows"]
theorem sc_R_live : FnScope N_R_live ["self"] (defScope (mem 29 5)) := ⟨rfl, rfl, rfl, by decide +kernel, rfl, by decide +kernel, by decide +kernel⟩
abbrev preR (a : List Str) : Prop := a.length ≤ 500 ∧ ∀ e ∈ a, e ∈ allE
theorem live_sub {a : List Str} (h : preR a) : preR (m_live_among a) := by
  unfold m_live_among
  rw [List.map_id']
  exact ⟨Nat.le_trans (List.length_filter_le _ _) h.1, fun e he => h.2 e (List.mem_filter.mp he).1⟩
theorem preR_g {a : List Str} (h : preR a) : pre_gathered_entries a := ⟨Nat.le_trans h.1 (by decide), fun p hp => .inl (h.2 p hp)⟩
theorem preR_l {a : List Str} (h : preR a) : pre_live_among a := ⟨Nat.le_trans h.1 (by decide), h.2⟩
abbrev sp_R_live : Sp := spF (A := List Str) (fun a => preR a) (fun a => [dat (tR T) (dR a)]) (fun a => fre (oIns T.cR) (dR (m_gathered_entries (m_live_among a))))
theorem g_R_live : Pn P w K mg base 6 T.cR "live" (sp_R_live T) := by
  have nd := sc_R_live.nd
  refine pg_of T.m_R_live sc_R_live (lenF fun _ => rfl) (fun _ _ _ _ _ _ us hl => match us, hl with | [_], _ => rfl) (fun f cdv A outer s H vs Q E hr h => ⟨_, (pss_cons (ps_set (i := 1) nd rfl (by first | exact Or.inl rfl | exact Or.inr rfl) (pe_cl (g_live_among T) hr (by decide) rfl (pa_cons (pe_fld (pv 0) rfl) pa_nil))) (pss_one (ps_ret (pe_mkS (g_R_init T) hr (by decide) rfl (pv 1))))), body_F h fun a B hp => ?_⟩)
  refine ex_seq (ex_asg (i := 1) (cl_live_among a (ea_cons (ev_fld (ev_var rfl) T.clR T.na_rows rfl) ea_nil) (preR_l hp)).lst (by show _ < 2; decide) ?_)
  refine ex_ret (fr_makeT (T := tStr) (xs := m_live_among a) (m_live_among a) rfl (EvE.row (K := K) (ev_var rfl)) (preR_g (live_sub hp)) (Nat.le_trans (live_sub hp).1 (by decide))) ?_
  rfl
/-! len, iter -/
abbrev N_R_len : List Str := ["self"]
theorem sc_R_len : FnScope N_R_len ["self"] (defScope (mem 29 8)) := ⟨rfl, rfl, rfl, by decide +kernel, rfl, by decide +kernel, by decide +kernel⟩
abbrev N_R_iter : List Str := ["self"]
theorem sc_R_iter : FnScope N_R_iter ["self"] (defScope (mem 29 9)) := ⟨rfl, rfl, rfl, by decide +kernel, rfl, by decide +kernel, by decide +kernel⟩
abbrev sp_R_len : Sp := spF (A := List Str) (fun a => True) (fun a => [dat (tR T) (dR a)]) (fun a => dat tInt (a.length : Int))
abbrev sp_R_iter : Sp := spF (A := List Str) (fun a => True) (fun a => [dat (tR T) (dR a)]) (fun a => itS tStr a)
theorem g_R_il : Iln P w K mg base 1 T.cR (sp_R_iter T) (sp_R_len T) := by
  have nd := sc_R_len.nd
  have nd2 := sc_R_iter.nd
  refine il_of T.it_R sc_R_iter (lenF fun _ => rfl) (fun _ _ _ _ _ _ us hl => match us, hl with | [_], _ => rfl) (fun f cdv A outer s H vs Q E hr h => ⟨_, (pss_one (ps_ret (pe_callB ItX.call_iterN (by rfl) T.n_iter (by decide +kernel) (pa_cons (pe_fld (pv 0) rfl) pa_nil)))), body_F h fun a B hp => ?_⟩)
    sc_R_len (lenF fun _ => rfl) (fun _ _ _ _ _ _ us hl => match us, hl with | [_], _ => rfl) (fun f cdv A outer s H vs Q E hr h => ⟨_, (pss_one (ps_ret (pe_callB call_len_seq (by rfl) T.n_len PySem.boot_len (pa_cons (pe_fld (pv 0) rfl) pa_nil)))), body_F h fun a B hp => ?_⟩)
  · refine ex_ret (ev_iter (ea_cons (ev_fld (ev_var rfl) T.clR T.na_rows rfl) ea_nil)) ?_
    rfl
  · refine ex_ret (ev_lenL (ea_cons (EvE.row (K := K) (ev_fld (ev_var rfl) T.clR T.na_rows rfl)) ea_nil)) ?_
    rfl
theorem ev_listR {B : Bas} {ρ ρ1 : List SV} {as : TA} {a : List Str} (ha : a.length ≤ 1000) (h : EvA B ρ as [dat (tR T) (dR a)] ρ1) : EvE B ρ (tCB (rLs K T.cR (sp_R_iter T) (sp_R_len T)) as) (fre (oList tStr) a) ρ1 :=
  fr_listO a h rfl rfl rfl rfl trivial trivial ⟨by omega, by omega⟩ (Nat.lt_of_le_of_lt ha (by rw [sizeLine_eq]; decide))
end
end K79
/-! text D5 -/
set_option maxHeartbeats 1000000
/-! D5: rules: store, union, order -/
namespace K79
open PySem PySem.Spec PyProof.Rows L2 Sw ItX
section
variable {P : Program} {w : World} {K : PySem.W.Frag} {mg : Str → Option Value} {base : Heap} (T : Tx w K mg)
/-! entries_of, of a rule and of a text -/
abbrev N_entries_of : List Str := ["other"]
theorem sc_entries_of : FnScope N_entries_of ["other"] (defScope (top 27)) := ⟨rfl, rfl, rfl, by decide +kernel, rfl, by decide +kernel, by decide +kernel⟩
abbrev sp_eoR : Sp := spF (A := List Str) (fun a => a.length ≤ 1000) (fun a => [dat (tR T) (dR a)]) (fun a => dat (tOpt (tList tStr)) (some a))
abbrev sp_eoS : Sp := spF (A := Str) (fun a => preX a) (fun a => [dat tStr a]) (fun a => dat (tOpt (tList tStr)) (some (m_expand a)))
theorem g_eoR : Gn P w K mg base 5 "entries_of" (sp_eoR T) := by
  have nd := sc_entries_of.nd
  refine gn_of T.d_entries_of sc_entries_of (lenF fun _ => rfl) (fun _ _ _ _ _ _ us hl => match us, hl with | [_], _ => rfl) (fun f cdv A outer s H vs Q E hr h => ⟨_, (pss_cons (ps_if (pt_val (pe_callB call_isi (by rfl) T.n_isinstance (by decide +kernel) (pa_cons (pv 0) (pa_cons (pe_glob (v := .ref T.cR) (by rfl) T.g_cR rfl (by decide)) pa_nil)))) (pss_one (ps_ret (pe_callTy (cr_listO (g_R_il T) hr (by decide) spF_mono) (by rfl) T.n_list (by decide +kernel) (pa_cons (pv 0) pa_nil)))) pss_nil) (pss_cons (ps_if (pt_val (pe_callB call_isi (by rfl) T.n_isinstance (by decide +kernel) (pa_cons (pv 0) (pa_cons (pe_bltn (v := .ty "str") (u := .type "str") (by rfl) T.n_str (by decide +kernel) rfl) pa_nil)))) (pss_one (ps_ret (pe_cl (g_expand T) hr (by decide) rfl (pa_cons (pv 0) pa_nil)))) pss_nil) (pss_one ps_never))), body_F h fun a B hp => ?_⟩)
  refine ex_seq (ex_if (et_B (ev_isi (.own T.cR) (ev_var rfl) (ty_ins T.isR T.k_RR))) (fun h1 => ?_) (fun h1 => nomatch h1))
  refine ex_ret (EvE.someO (ev_listR T hp (ea_cons (ev_var rfl) ea_nil)).lst nn_list) ?_
  rfl
theorem g_eoS (T : Tx w K mg) : Gn P w K mg base 5 "entries_of" sp_eoS := by
  have nd := sc_entries_of.nd
  refine gn_of T.d_entries_of sc_entries_of (lenF fun _ => rfl) (fun _ _ _ _ _ _ us hl => match us, hl with | [_], _ => rfl) (fun f cdv A outer s H vs Q E hr h => ⟨_, (pss_cons (ps_if (pt_val (pe_callB call_isi (by rfl) T.n_isinstance (by decide +kernel) (pa_cons (pv 0) (pa_cons (pe_glob (v := .ref T.cR) (by rfl) T.g_cR rfl (by decide)) pa_nil)))) (pss_one (ps_ret (pe_callTy (cr_listO (g_R_il T) hr (by decide) spF_mono) (by rfl) T.n_list (by decide +kernel) (pa_cons (pv 0) pa_nil)))) pss_nil) (pss_cons (ps_if (pt_val (pe_callB call_isi (by rfl) T.n_isinstance (by decide +kernel) (pa_cons (pv 0) (pa_cons (pe_bltn (v := .ty "str") (u := .type "str") (by rfl) T.n_str (by decide +kernel) rfl) pa_nil)))) (pss_one (ps_ret (pe_cl (g_expand T) hr (by decide) rfl (pa_cons (pv 0) pa_nil)))) pss_nil) (pss_one ps_never))), body_F h fun a B hp => ?_⟩)
  refine ex_seq (ex_if (et_B (ev_isi (.own T.cR) (ev_var rfl) (ty_str T.k_SR))) (fun h1 => nomatch h1) (fun h1 => ?_))
  refine ex_next ?_
  refine ex_seq (ex_if (et_B (ev_isi (bb := true) (.ty "str") (ev_var rfl) (ty_str (kit_ty (by decide +kernel))))) (fun h1 => ?_) (fun h1 => nomatch h1))
  refine ex_ret (EvE.someO (cl_expand a (ea_cons (ev_var rfl) ea_nil) hp).lst nn_list) ?_
  rfl
/-! Rule.__setitem__, False -/
abbrev N_R_set : List Str := ["self", "pattern", "worth"]
theorem sc_R_set : FnScope N_R_set ["self", "pattern", "worth"] (defScope (mem 29 13)) := ⟨rfl, rfl, rfl, by decide +kernel, rfl, by decide +kernel, by decide +kernel⟩
theorem ew_sub {a b : List Str} (h : preR a) : preR (m_entries_without a b) := by
  unfold m_entries_without
  rw [List.map_id']
  exact ⟨Nat.le_trans (List.length_filter_le _ _) h.1, fun e he => h.2 e (List.mem_filter.mp he).1⟩
abbrev sp_R_set : Sp := spM (A := List Str × Str) (fun a => preR a.1 ∧ preX a.2) (oIns T.cR) (fun a => dR a.1) (fun a => [dat tStr a.2, dat tBl false]) (fun a => dR (m_entries_without a.1 (m_expand a.2))) (fun _ => dat tNon ())
theorem g_R_set : On P w K mg base 3 T.cR "__setitem__" (sp_R_set T) := by
  have nd := sc_R_set.nd
  refine op_of T.m_R_setitem sc_R_set (fun vs H Q E ⟨a, _, _, x, ws, _, e, hl, _⟩ => by rw [e]; simp [hl]) (fun _ _ _ _ _ _ us hl => match us, hl with | [_, _, _], _ => rfl) (fun f cdv A outer s H vs Q E hr h => ⟨_, (pss_one (ps_if (pt_val (pv 2)) (pss_one ps_never) (pss_one (ps_fld (pv 0) (pe_cl (g_entries_without T) hr (by decide) rfl (pa_cons (pe_fld (pv 0) rfl) (pa_cons (pe_cl (g_expand T) hr (by decide) rfl (pa_cons (pv 1) pa_nil)) pa_nil))) rfl)))), body_M h fun a B x hp => ?_⟩)
  obtain ⟨rows, p⟩ := a
  refine ex_ref (i := 0) rfl oat_ins fun q hq => ?_
  subst hq
  refine ex_if (et_B (ev_var rfl)) (fun h1 => nomatch h1) (fun h1 => ?_)
  refine ex_fld (i := 0) (p := q) (ds := dR rows) (cl_entries_without (rows, m_expand p) (ea_cons (ev_fldO (ev_varO rfl) (m := 0) rfl T.clR T.na_rows rfl) (ea_cons (cl_expand p (ea_cons (ev_var rfl) ea_nil) hp.2).lst ea_nil)) ⟨Nat.le_trans hp.1.1 (by decide), Nat.le_trans (len_x p) (by decide)⟩).lst rfl T.clR T.na_rows (by show 1 < 1000; decide) ?_
  exact ⟨rfl, rfl⟩
/-! Rule.__or__ -/
abbrev N_R_or : List Str := ["self", "other", "rows", "joint"]
theorem sc_R_or : FnScope N_R_or ["self", "other"] (defScope (mem 29 14)) := ⟨rfl, rfl, rfl, by decide +kernel, rfl, by decide +kernel, by decide +kernel⟩
abbrev sp_R_or : Sp := spF (A := List Str × List Str) (fun a => preR a.1 ∧ preR a.2) (fun a => [dat (tR T) (dR a.1), dat (tR T) (dR a.2)]) (fun a => fre (oIns T.cR) (dR (m_gathered_entries (a.1 ++ a.2))))
theorem g_R_or : On P w K mg base 6 T.cR "__or__" (sp_R_or T) := by
  have nd := sc_R_or.nd
  refine op_of T.m_R_or sc_R_or (lenF fun _ => rfl) (fun _ _ _ _ _ _ us hl => match us, hl with | [_, _], _ => rfl) (fun f cdv A outer s H vs Q E hr h => ⟨_, (pss_cons (ps_set (i := 2) nd rfl (by first | exact Or.inl rfl | exact Or.inr rfl) (pe_cl (g_eoR T) hr (by decide) rfl (pa_cons (pv 1) pa_nil))) (pss_cons (ps_if (pt_cmpR op_isN (pv 2) pe_non (nomark _)) (pss_one ps_never) pss_nil) (pss_cons (ps_set (i := 3) nd rfl (by first | exact Or.inl rfl | exact Or.inr rfl) (pe_op op_cat (pe_fld (pv 0) rfl) (pv 2))) (pss_one (ps_ret (pe_mkS (g_R_init T) hr (by decide) rfl (pv 3))))))), body_F h fun a B hp => ?_⟩)
  obtain ⟨x, y⟩ := a
  refine ex_seq (ex_asg (i := 2) (ev_call (pre := fun a : List Str => a.length ≤ 1000) (ins := fun a => [dat (tR T) (dR a)]) (res := fun a => dat (tOpt (tList tStr)) (some a)) y (ea_cons (ev_var rfl) ea_nil) (Nat.le_trans hp.2.1 (by decide)) fr_l1) (by show _ < 4; decide) ?_)
  refine ex_seq (ex_if (et_test (ev_isN (ev_var rfl))) (fun h1 => nomatch h1) (fun h1 => ?_))
  refine ex_next ?_
  refine ex_seq (ex_asg (i := 3) (fr_cat (ev_fld (ev_var rfl) T.clR T.na_rows rfl) (EvE.getO (ev_var rfl) rfl) (by rw [sizeLine_eq]; have h1 := hp.1.1; have h2 := hp.2.1; simp only at h1 h2; omega)).lst (by show _ < 4; decide) ?_)
  refine ex_ret (fr_makeT (T := tStr) (xs := x ++ y) (x ++ y) rfl (EvE.row (K := K) (ev_var rfl)) ⟨by rw [List.length_append]; have h1 := hp.1.1; have h2 := hp.2.1; simp only at h1 h2; omega, fun p h => .inl ((List.mem_append.mp h).elim (hp.1.2 p) (hp.2.2 p))⟩ (by rw [sizeLine_eq, List.length_append]; have h1 := hp.1.1; have h2 := hp.2.1; simp only at h1 h2; omega)) ?_
  rfl
/-! Rule.__ior__, a text -/
abbrev N_R_ior : List Str := ["self", "other", "rows"]
theorem sc_R_ior : FnScope N_R_ior ["self", "other"] (defScope (mem 29 23)) := ⟨rfl, rfl, rfl, by decide +kernel, rfl, by decide +kernel, by decide +kernel⟩
abbrev sp_R_ior : Sp := spI (A := List Str × Str) (fun a => preR a.1 ∧ preX a.2) (oIns T.cR) (fun a => dR a.1) (fun a => [dat tStr a.2]) (fun a => dR (m_with_both a.1 (m_expand a.2)))
theorem g_R_ior : On P w K mg base 6 T.cR "__ior__" (sp_R_ior T) := by
  have nd := sc_R_ior.nd
  refine op_of T.m_R_ior sc_R_ior (fun vs H Q E ⟨a, _, _, x, ws, _, e, hl, _⟩ => by rw [e]; simp [hl]) (fun _ _ _ _ _ _ us hl => match us, hl with | [_, _], _ => rfl) (fun f cdv A outer s H vs Q E hr h => ⟨_, (pss_cons (ps_set (i := 2) nd rfl (by first | exact Or.inl rfl | exact Or.inr rfl) (pe_cl (g_eoS T) hr (by decide) rfl (pa_cons (pv 1) pa_nil))) (pss_cons (ps_if (pt_cmpR op_isN (pv 2) pe_non (nomark _)) (pss_one ps_never) pss_nil) (pss_cons (ps_fld (pv 0) (pe_cl (g_with_both T) hr (by decide) rfl (pa_cons (pe_fld (pv 0) rfl) (pa_cons (pv 2) pa_nil))) rfl) (pss_one (ps_ret (pv 0)))))), body_I h fun a B x hp => ?_⟩)
  obtain ⟨rows, p⟩ := a
  refine ex_ref (i := 0) rfl oat_ins fun q hq => ?_
  subst hq
  refine ex_seq (ex_asg (i := 2) (ev_call (pre := fun a : Str => preX a) (ins := fun a => [dat tStr a]) (res := fun a => dat (tOpt (tList tStr)) (some (m_expand a))) p (ea_cons (ev_var rfl) ea_nil) hp.2 fr_l1) (by show _ < 3; decide) ?_)
  refine ex_seq (ex_if (et_test (ev_isN (ev_var rfl))) (fun h1 => nomatch h1) (fun h1 => ?_))
  refine ex_next ?_
  refine ex_seq (ex_fld (i := 0) (p := q) (ds := dR rows) (cl_with_both (rows, m_expand p) (ea_cons (ev_fldO (ev_varO rfl) (m := 0) rfl T.clR T.na_rows rfl) (ea_cons (EvE.getO (ev_var rfl) rfl) ea_nil)) ⟨Nat.le_trans hp.1.1 (by decide), Nat.le_trans (len_x p) (by decide)⟩).lst rfl T.clR T.na_rows (by show 1 < 1000; decide) ?_)
  refine ex_ret (ev_varO rfl) ?_
  exact ⟨rfl, rfl⟩
/-! Rule.__le__ -/
abbrev N_R_le : List Str := ["self", "other"]
theorem sc_R_le : FnScope N_R_le ["self", "other"] (defScope (mem 29 26)) := ⟨rfl, rfl, rfl, by decide +kernel, rfl, by decide +kernel, by decide +kernel⟩
abbrev m_le (a b : List Str) : Bool := decide (((m_entries_without (m_live_among a) b).length : Int) = 0)
abbrev sp_R_le : Sp := spF (A := List Str × List Str) (fun a => preR a.1 ∧ preR a.2) (fun a => [dat (tR T) (dR a.1), dat (tR T) (dR a.2)]) (fun a => dat tBl (m_le a.1 a.2))
theorem g_R_le : On P w K mg base 6 T.cR "__le__" (sp_R_le T) := by
  have nd := sc_R_le.nd
  refine op_of T.m_R_le sc_R_le (lenF fun _ => rfl) (fun _ _ _ _ _ _ us hl => match us, hl with | [_, _], _ => rfl) (fun f cdv A outer s H vs Q E hr h => ⟨_, (pss_cons (ps_if (pt_not (pt_val (pe_callB call_isi (by rfl) T.n_isinstance (by decide +kernel) (pa_cons (pv 1) (pa_cons (pe_glob (v := .ref T.cR) (by rfl) T.g_cR rfl (by decide)) pa_nil))))) (pss_one ps_never) pss_nil) (pss_one (ps_ret (pe_cmpR op_eq (pe_callB call_len_seq (by rfl) T.n_len PySem.boot_len (pa_cons (pe_cl (g_entries_without T) hr (by decide) rfl (pa_cons (pe_cl (g_live_among T) hr (by decide) rfl (pa_cons (pe_fld (pv 0) rfl) pa_nil)) (pa_cons (pe_fld (pv 1) rfl) pa_nil))) pa_nil)) pe_int (nomark _))))), body_F h fun a B hp => ?_⟩)
  obtain ⟨x, y⟩ := a
  refine ex_seq (ex_if (et_not (et_B (ev_isi (.own T.cR) (ev_var rfl) (ty_ins T.isR T.k_RR)))) (fun h1 => nomatch h1) (fun h1 => ?_))
  refine ex_next ?_
  refine ex_ret (ev_eqI (ev_lenL (ea_cons (EvE.row (K := K) (cl_entries_without (m_live_among x, y) (ea_cons (cl_live_among x (ea_cons (ev_fld (ev_var rfl) T.clR T.na_rows rfl) ea_nil) (preR_l hp.1)).lst (ea_cons (ev_fld (ev_var rfl) T.clR T.na_rows rfl) ea_nil)) ⟨Nat.le_trans (live_sub hp.1).1 (by decide), Nat.le_trans hp.2.1 (by decide)⟩).lst) ea_nil)) ev_int) ?_
  rfl
end
end K79
/-! text D6a -/
set_option maxHeartbeats 1000000
namespace K79
open PySem PySem.Spec PyProof.Rows L2 Sw
local macro_rules | `(tactic| walk_at "side") => `(tactic| first | omega | with_reducible assumption | with_reducible exact True.intro | (simp only [Str.length_append, l_sp, l_emp, l_rs, l_rl, l_rd, sizeLine_eq, List.length_map, List.length_cons, List.length_nil, List.length_append]; first | omega | with_reducible assumption | (have z1 := l_sg _ ‹_ ∈ c_STRONG›; omega)) | (simp only [l_all]; omega) | (rw [‹Txt.split _ _ = _›]; exact rfl) | assumption | decide)
section
variable {P : Program} {w : World} {K : PySem.W.Frag} {mg : Str → Option Value} {base : Heap}
/-! checked_word -/
abbrev s_checked_word : Stmt := top 32
abbrev N_checked_word : List Str := ["word"]
theorem sc_checked_word : FnScope N_checked_word ["word"] (defScope s_checked_word) := ⟨rfl, rfl, rfl, by decide +kernel, rfl, by decide +kernel, by decide +kernel⟩
def m_checked_word (word : Str) : Str := (if (!decide (word ∈ ([("fresh" : Str), ("kept" : Str)] : List Str))) = true then default else word)
abbrev in_checked_word {w : World} (K : PySem.W.Frag) {mg : Str → Option Value} (T : Tx w K mg) (a : Str) : List SV := [(dat tStr a)]
theorem fr_checked_word {w : World} {K : PySem.W.Frag} {mg : Str → Option Value} {T : Tx w K mg} (a : Str) : ∀ s ∈ in_checked_word K T a, Fr s := (fr_cons fr_dat fr_nil)
abbrev pre_checked_word (a : Str) : Prop := a = "fresh" ∨ a = "kept"
abbrev sp_checked_word {w : World} (K : PySem.W.Frag) {mg : Str → Option Value} (T : Tx w K mg) : Sp := spF (A := Str) (fun a => pre_checked_word a) (fun a => in_checked_word K T a) (fun a => (dat tStr (m_checked_word a)))
theorem cl_checked_word {T : Tx w K mg} {B : Bas} {ρ ρ1 : List SV} {as : TA} (a : Str) (h : EvA B ρ as (in_checked_word K T a) ρ1) (hp : pre_checked_word a) : EvE B ρ (tCl (sp_checked_word K T) as) (dat tStr (m_checked_word a)) ρ1 := ev_call (pre := fun a => pre_checked_word a) (ins := fun a => in_checked_word K T a) (res := fun a => (dat tStr (m_checked_word a))) a h hp (fr_checked_word a)
theorem g_checked_word (T : Tx w K mg) : Gn P w K mg base 1 "checked_word" (sp_checked_word K T) := by
  have nd := sc_checked_word.nd
  refine gn_of T.d_checked_word sc_checked_word (lenF fun _ => rfl) (fun _ _ _ _ _ _ us hl => match us, hl with | [_], _ => rfl) (fun f cdv A outer s H vs Q E hr h => ⟨_, (pss_cons (ps_if (pt_cmpR (op_notIn_K (K := K) rfl) (pv 0) (pe_tup (pa_cons pe_str (pa_cons pe_str pa_nil))) (by with_unfolding_all rfl)) (pss_one ps_never) pss_nil) (pss_one (ps_ret (pv 0)))), body_F h fun word B hp => ?_⟩)
  have hp : word = "fresh" ∨ word = "kept" := hp
  refine ex_seq (ex_if (et_test (ev_niT (ev_var rfl) (ev_tupL (K := K) (T := tStr) (xs := ([("fresh" : Str), ("kept" : Str)] : List Str)) (ea_cons ev_str (ea_cons ev_str ea_nil)) (by show 2 ≤ sizeLine; decide)))) (fun h1 => ?_) (fun h1 => ?_))
  · exact (by exfalso; revert h1; rcases hp with rfl | rfl <;> simp)
  · refine ex_next ?_
    refine ex_ret (ev_var rfl) ?_
    exact (congrArg (fun z => (dat tStr z)) (show word = m_checked_word word from by unfold m_checked_word; rw [if_neg (nt h1)]))
end
end K79
/-! text D6 -/
set_option maxHeartbeats 1000000
/-! D6: promises -/
namespace K79
open PySem PySem.Spec PyProof.Rows L2 Sw ItX
section
variable {P : Program} {w : World} {K : PySem.W.Frag} {mg : Str → Option Value} {base : Heap} (T : Tx w K mg)
abbrev okW (s : Str) : Prop := s = "fresh" ∨ s = "kept"
abbrev okP2 (a : Str × Str) : Prop := okW a.1 ∧ okW a.2
theorem cw_ok {s : Str} (h : okW s) : m_checked_word s = s := by
  rcases h with rfl | rfl <;> decide +kernel
theorem cl_cw {T : Tx w K mg} {B : Bas} {ρ ρ1 : List SV} {as : TA} (a : Str) (h : EvA B ρ as (in_checked_word K T a) ρ1) (hp : okW a) : EvE B ρ (tCl (sp_checked_word K T) as) (dat tStr a) ρ1 := (cl_checked_word a h hp).is (cw_ok hp)
/-! Promise.__init__ -/
abbrev N_P_init : List Str := ["self", "look", "reserved"]
theorem sc_P_init : FnScope N_P_init ["self", "look", "reserved"] (defScope (mem 33 1)) := ⟨rfl, rfl, rfl, by decide +kernel, rfl, by decide +kernel, by decide +kernel⟩
abbrev sp_P_init : Sp := spM (A := Str × Str) (fun a => okP2 a) (oIns T.cP) (fun _ => []) (fun a => [dat tStr a.1, dat tStr a.2]) (fun a => dP a) (fun _ => dat tNon ())
theorem g_P_init : Cn P w K mg base 2 "Promise" T.cP (sp_P_init T) := by
  have nd := sc_P_init.nd
  refine in_of T.m_P_init T.g_cP sc_P_init (fun vs H Q E ⟨a, _, _, x, ws, _, e, hl, _⟩ => by rw [e]; simp [hl]) (fun _ _ _ _ _ _ us hl => match us, hl with | [_, _, _], _ => rfl) (fun f cdv A outer s H vs Q E hr h => ⟨_, (pss_cons (ps_fld (pv 0) (pe_cl (g_checked_word T) hr (by decide) rfl (pa_cons (pv 1) pa_nil)) rfl) (pss_one (ps_fld (pv 0) (pe_cl (g_checked_word T) hr (by decide) rfl (pa_cons (pv 2) pa_nil)) rfl))), body_M h fun a B x hp => ?_⟩)
  obtain ⟨l, r⟩ := a
  refine ex_ref (i := 0) rfl oat_ins fun q hq => ?_
  subst hq
  refine ex_seq (ex_fld (i := 0) (p := q) (ds := []) (cl_cw l (ea_cons (ev_var rfl) ea_nil) hp.1) rfl T.clP T.na_look (by show 0 < 1000; decide) ?_)
  refine ex_fld (i := 0) (p := q) (ds := [("_look", dt tStr l)]) (cl_cw r (ea_cons (ev_var rfl) ea_nil) hp.2) rfl T.clP T.na_reserved (by show 1 < 1000; decide) ?_
  exact ⟨rfl, rfl⟩
/-! Promise.look -/
abbrev N_P_look : List Str := ["self"]
theorem sc_P_look : FnScope N_P_look ["self"] (defScope (mem 33 3)) := ⟨rfl, rfl, rfl, by decide +kernel, rfl, by decide +kernel, by decide +kernel⟩
abbrev sp_P_look : Sp := spF (A := Str × Str) (fun a => True) (fun a => [dat (tP T) (dP a)]) (fun a => dat tStr a.1)
theorem g_P_look : Pn P w K mg base 1 T.cP "look" (sp_P_look T) := by
  have nd := sc_P_look.nd
  refine pg_of T.m_P_look sc_P_look (lenF fun _ => rfl) (fun _ _ _ _ _ _ us hl => match us, hl with | [_], _ => rfl) (fun f cdv A outer s H vs Q E hr h => ⟨_, (pss_one (ps_ret (pe_fld (pv 0) rfl))), body_F h fun a B hp => ?_⟩)
  refine ex_ret (ev_fld (T := tStr) (a := a.1) (ev_var rfl) T.clP T.na_look rfl) ?_
  rfl
/-! Promise.reserved -/
abbrev N_P_reserved : List Str := ["self"]
theorem sc_P_reserved : FnScope N_P_reserved ["self"] (defScope (mem 33 5)) := ⟨rfl, rfl, rfl, by decide +kernel, rfl, by decide +kernel, by decide +kernel⟩
abbrev sp_P_reserved : Sp := spF (A := Str × Str) (fun a => True) (fun a => [dat (tP T) (dP a)]) (fun a => dat tStr a.2)
theorem g_P_reserved : Pn P w K mg base 1 T.cP "reserved" (sp_P_reserved T) := by
  have nd := sc_P_reserved.nd
  refine pg_of T.m_P_reserved sc_P_reserved (lenF fun _ => rfl) (fun _ _ _ _ _ _ us hl => match us, hl with | [_], _ => rfl) (fun f cdv A outer s H vs Q E hr h => ⟨_, (pss_one (ps_ret (pe_fld (pv 0) rfl))), body_F h fun a B hp => ?_⟩)
  refine ex_ret (ev_fld (T := tStr) (a := a.2) (ev_var rfl) T.clP T.na_reserved rfl) ?_
  rfl
/-! Promise.look = -/
abbrev N_P_slook : List Str := ["self", "word"]
theorem sc_P_slook : FnScope N_P_slook ["self", "word"] (defScope (mem 33 4)) := ⟨rfl, rfl, rfl, by decide +kernel, rfl, by decide +kernel, by decide +kernel⟩
abbrev sp_P_slook : Sp := spM (A := (Str × Str) × Str) (fun a => okW a.2) (oIns T.cP) (fun a => dP a.1) (fun a => [dat tStr a.2]) (fun a => dP (a.2, a.1.2)) (fun _ => dat tNon ())
theorem g_P_slook : Psn P w K mg base 2 T.cP "look" (sp_P_slook T) := by
  have nd := sc_P_slook.nd
  refine ps_of T.m_P_slook sc_P_slook (fun vs H Q E ⟨a, _, _, x, ws, _, e, hl, _⟩ => by rw [e]; simp [hl]) (fun _ _ _ _ _ _ us hl => match us, hl with | [_, _], _ => rfl) (fun f cdv A outer s H vs Q E hr h => ⟨_, (pss_one (ps_fld (pv 0) (pe_cl (g_checked_word T) hr (by decide) rfl (pa_cons (pv 1) pa_nil)) rfl)), body_M h fun a B x hp => ?_⟩)
  obtain ⟨⟨l, r⟩, wd⟩ := a
  refine ex_ref (i := 0) rfl oat_ins fun q hq => ?_
  subst hq
  refine ex_fld (i := 0) (p := q) (ds := dP (l, r)) (cl_cw wd (ea_cons (ev_var rfl) ea_nil) hp) rfl T.clP T.na_look (by show 2 < 1000; decide) ?_
  exact ⟨rfl, rfl⟩
/-! Promise.reserved = -/
abbrev N_P_sreserved : List Str := ["self", "word"]
theorem sc_P_sreserved : FnScope N_P_sreserved ["self", "word"] (defScope (mem 33 6)) := ⟨rfl, rfl, rfl, by decide +kernel, rfl, by decide +kernel, by decide +kernel⟩
abbrev sp_P_sreserved : Sp := spM (A := (Str × Str) × Str) (fun a => okW a.2) (oIns T.cP) (fun a => dP a.1) (fun a => [dat tStr a.2]) (fun a => dP (a.1.1, a.2)) (fun _ => dat tNon ())
theorem g_P_sreserved : Psn P w K mg base 2 T.cP "reserved" (sp_P_sreserved T) := by
  have nd := sc_P_sreserved.nd
  refine ps_of T.m_P_sreserved sc_P_sreserved (fun vs H Q E ⟨a, _, _, x, ws, _, e, hl, _⟩ => by rw [e]; simp [hl]) (fun _ _ _ _ _ _ us hl => match us, hl with | [_, _], _ => rfl) (fun f cdv A outer s H vs Q E hr h => ⟨_, (pss_one (ps_fld (pv 0) (pe_cl (g_checked_word T) hr (by decide) rfl (pa_cons (pv 1) pa_nil)) rfl)), body_M h fun a B x hp => ?_⟩)
  obtain ⟨⟨l, r⟩, wd⟩ := a
  refine ex_ref (i := 0) rfl oat_ins fun q hq => ?_
  subst hq
  refine ex_fld (i := 0) (p := q) (ds := dP (l, r)) (cl_cw wd (ea_cons (ev_var rfl) ea_nil) hp) rfl T.clP T.na_reserved (by show 2 < 1000; decide) ?_
  exact ⟨rfl, rfl⟩
/-! Promise.change -/
abbrev N_P_change : List Str := ["self", "part", "word"]
theorem sc_P_change : FnScope N_P_change ["self", "part", "word"] (defScope (mem 33 7)) := ⟨rfl, rfl, rfl, by decide +kernel, rfl, by decide +kernel, by decide +kernel⟩
theorem ps_psn {X : Cx} {j k : Nat} {C : Addr} {f : Str} {sp : Sp} {o value : Expr} {ta tv : TE} {pos pos' : Pos} (S : Psn X.prog X.w X.K X.mg X.base k C f sp) (hr : Room j X.A) (hk : k + 2 ≤ j) (ha : PE X o ta) (hv : PE X value tv) (hs : swapsWith value (some (.Attribute o f pos')) pos.line X.env = pure false) :
    PS X (.Assign [.Attribute o f pos'] value pos) (sPro C sp ta tv) := by
  obtain ⟨p, g, h1, h2⟩ := S.ex
  exact ps_pro h2 h1 hr hk ha hv hs
abbrev m_change (a : Str × Str) (part word : Str) : Str × Str := if part = "look" then (word, a.2) else (a.1, word)
abbrev sp_P_change : Sp := spM (A := (Str × Str) × Str × Str) (fun a => okW a.2.2 ∧ (a.2.1 = "look" ∨ a.2.1 = "reserved")) (oIns T.cP) (fun a => dP a.1) (fun a => [dat tStr a.2.1, dat tStr a.2.2]) (fun a => dP (m_change a.1 a.2.1 a.2.2)) (fun _ => dat tNon ())
theorem g_P_change : Mn P w K mg base 5 T.cP "change" (sp_P_change T) := by
  have nd := sc_P_change.nd
  refine md_of T.m_P_change sc_P_change (fun vs H Q E ⟨a, _, _, x, ws, _, e, hl, _⟩ => by rw [e]; simp [hl]) (fun _ _ _ _ _ _ us hl => match us, hl with | [_, _, _], _ => rfl) (fun f cdv A outer s H vs Q E hr h => ⟨_, (pss_one (ps_if (pt_cmpR op_eq (pv 1) pe_str (nomark _)) (pss_one (ps_psn (g_P_slook T) hr (by decide) (pv 0) (pv 2) rfl)) (pss_one (ps_if (pt_cmpR op_eq (pv 1) pe_str (nomark _)) (pss_one (ps_psn (g_P_sreserved T) hr (by decide) (pv 0) (pv 2) rfl)) (pss_one ps_never))))), body_M h fun a B x hp => ?_⟩)
  obtain ⟨⟨l, r⟩, pt, wd⟩ := a
  refine ex_if (et_test (ev_eqS (ev_var rfl) ev_str)) (fun h1 => ?_) (fun h1 => ?_)
  · refine ex_pro (i := 0) (k0 := dP (l, r)) (T := tStr) (a := wd) ((l, r), wd) rfl (ev_var rfl) rfl hp.1 ?_
    have e : pt = "look" := of_decide_eq_true h1
    exact ⟨rfl, by subst e; rfl⟩
  · refine ex_if (et_test (ev_eqS (ev_var rfl) ev_str)) (fun h2 => ?_) (fun h2 => ?_)
    · refine ex_pro (i := 0) (k0 := dP (l, r)) (T := tStr) (a := wd) ((l, r), wd) rfl (ev_var rfl) rfl hp.1 ?_
      have e : pt = "reserved" := of_decide_eq_true h2
      refine ⟨rfl, ?_⟩
      subst e
      show some (own x (oIns T.cP) (dP (l, wd))) = some (own x (oIns T.cP) (dP (m_change (l, r) "reserved" wd)))
      unfold m_change
      rw [if_neg (by decide +kernel)]
    · exfalso
      rcases hp.2 with e | e
      · exact of_decide_eq_false h1 e
      · exact of_decide_eq_false h2 e
/-! Promise.__le__ -/
abbrev N_P_le : List Str := ["self", "other"]
theorem sc_P_le : FnScope N_P_le ["self", "other"] (defScope (mem 33 10)) := ⟨rfl, rfl, rfl, by decide +kernel, rfl, by decide +kernel, by decide +kernel⟩
def m_Ple (x y : Str × Str) : Bool := if (decide (x.1 = "kept") && decide (y.1 = "fresh")) = true then false else (decide (x.2 = "fresh") || decide (y.2 = "kept"))
abbrev sp_P_le : Sp := spF (A := (Str × Str) × Str × Str) (fun a => True) (fun a => [dat (tP T) (dP a.1), dat (tP T) (dP a.2)]) (fun a => dat tBl (m_Ple a.1 a.2))
theorem g_P_le : On P w K mg base 1 T.cP "__le__" (sp_P_le T) := by
  have nd := sc_P_le.nd
  refine op_of T.m_P_le sc_P_le (lenF fun _ => rfl) (fun _ _ _ _ _ _ us hl => match us, hl with | [_, _], _ => rfl) (fun f cdv A outer s H vs Q E hr h => ⟨_, (pss_cons (ps_if (pt_not (pt_val (pe_callB call_isi (by rfl) T.n_isinstance (by decide +kernel) (pa_cons (pv 1) (pa_cons (pe_glob (v := .ref T.cP) (by rfl) T.g_cP rfl (by decide)) pa_nil))))) (pss_one ps_never) pss_nil) (pss_cons (ps_if (PW.pt (pw_and (pt_cmpR op_eq (pe_fld (pv 0) rfl) pe_str (nomark _)) (pw_and1 (pt_cmpR op_eq (pe_fld (pv 1) rfl) pe_str (nomark _))))) (pss_one (ps_ret pe_bl)) pss_nil) (pss_one (ps_ret (pe_or (pe_cmpR op_eq (pe_fld (pv 0) rfl) pe_str (nomark _)) (pe_one (pe_cmpR op_eq (pe_fld (pv 1) rfl) pe_str (nomark _)))))))), body_F h fun a B hp => ?_⟩)
  obtain ⟨x, y⟩ := a
  refine ex_seq (ex_if (et_not (et_B (ev_isi (.own T.cP) (ev_var rfl) (ty_ins T.isP T.k_PP)))) (fun h1 => nomatch h1) (fun h1 => ?_))
  refine ex_next ?_
  refine ex_seq (ex_if (et_and (et_test (ev_eqS (ev_fld (T := tStr) (a := x.1) (ev_var rfl) T.clP T.na_look rfl) ev_str)) (fun _ => et_test (ev_eqS (ev_fld (T := tStr) (a := y.1) (ev_var rfl) T.clP T.na_look rfl) ev_str))) (fun h2 => ?_) (fun h2 => ?_))
  · refine ex_ret ev_bl ?_
    exact congrArg (fun z => dat tBl z) (show false = m_Ple x y from by unfold m_Ple; rw [if_pos h2])
  · refine ex_next ?_
    refine ex_ret (ev_or (ev_eqS (ev_fld (T := tStr) (a := x.2) (ev_var rfl) T.clP T.na_reserved rfl) ev_str) (fun _ => ev_eqS (ev_fld (T := tStr) (a := y.2) (ev_var rfl) T.clP T.na_reserved rfl) ev_str)) ?_
    exact congrArg (fun z => dat tBl z) (show _ = m_Ple x y from by unfold m_Ple; rw [if_neg (nt h2)])
/-! Promise.__or__ -/
abbrev N_P_or : List Str := ["self", "other", "look", "reserved"]
theorem sc_P_or : FnScope N_P_or ["self", "other"] (defScope (mem 33 11)) := ⟨rfl, rfl, rfl, by decide +kernel, rfl, by decide +kernel, by decide +kernel⟩
def pick2 (a b x y : Str) : Str := if decide (a ∈ [x, y]) = true then a else b
theorem pick2_ok {a b x y : Str} (ha : okW a) (hb : okW b) : okW (pick2 a b x y) := by
  unfold pick2
  split
  · exact ha
  · exact hb
def m_Por (x y : Str × Str) : Str × Str := (pick2 "kept" "fresh" x.1 y.1, pick2 "kept" "fresh" x.2 y.2)
theorem m_Por_ok (x y : Str × Str) : okP2 (m_Por x y) := ⟨pick2_ok (by decide +kernel) (by decide +kernel), pick2_ok (by decide +kernel) (by decide +kernel)⟩
abbrev sp_P_or : Sp := spF (A := (Str × Str) × Str × Str) (fun a => True) (fun a => [dat (tP T) (dP a.1), dat (tP T) (dP a.2)]) (fun a => fre (oIns T.cP) (dP (m_Por a.1 a.2)))
theorem g_P_or : On P w K mg base 4 T.cP "__or__" (sp_P_or T) := by
  have nd := sc_P_or.nd
  refine op_of T.m_P_or sc_P_or (lenF fun _ => rfl) (fun _ _ _ _ _ _ us hl => match us, hl with | [_, _], _ => rfl) (fun f cdv A outer s H vs Q E hr h => ⟨_, (pss_cons (ps_if (pt_not (pt_val (pe_callB call_isi (by rfl) T.n_isinstance (by decide +kernel) (pa_cons (pv 1) (pa_cons (pe_glob (v := .ref T.cP) (by rfl) T.g_cP rfl (by decide)) pa_nil))))) (pss_one ps_never) pss_nil) (pss_cons (ps_set (i := 2) nd rfl (by first | exact Or.inl rfl | exact Or.inr rfl) (pe_ifExp (pt_cmpR (op_in_K (K := K) rfl) pe_str (pe_tup (pa_cons (pe_fld (pv 0) rfl) (pa_cons (pe_fld (pv 1) rfl) pa_nil))) (by with_unfolding_all rfl)) pe_str pe_str)) (pss_cons (ps_set (i := 3) nd rfl (by first | exact Or.inl rfl | exact Or.inr rfl) (pe_ifExp (pt_cmpR (op_in_K (K := K) rfl) pe_str (pe_tup (pa_cons (pe_fld (pv 0) rfl) (pa_cons (pe_fld (pv 1) rfl) pa_nil))) (by with_unfolding_all rfl)) pe_str pe_str)) (pss_one (ps_ret (pe_mkR (g_P_init T) hr (by decide) rfl (pa_cons (pv 2) (pa_cons (pv 3) pa_nil)))))))), body_F h fun a B hp => ?_⟩)
  obtain ⟨x, y⟩ := a
  refine ex_seq (ex_if (et_not (et_B (ev_isi (.own T.cP) (ev_var rfl) (ty_ins T.isP T.k_PP)))) (fun h1 => nomatch h1) (fun h1 => ?_))
  refine ex_next ?_
  refine ex_seq (ex_asg (i := 2) (ev_if (R := dat tStr (pick2 "kept" "fresh" x.1 y.1)) (et_test (ev_isT (K := K) ev_str (ev_tupL (K := K) (T := tStr) (xs := [x.1, y.1]) (ea_cons (ev_fld (T := tStr) (a := x.1) (ev_var rfl) T.clP T.na_look rfl) (ea_cons (ev_fld (T := tStr) (a := y.1) (ev_var rfl) T.clP T.na_look rfl) ea_nil)) (by show 2 ≤ sizeLine; decide)))) (fun h => EvE.is ev_str (by unfold pick2; rw [if_pos h])) (fun h => EvE.is ev_str (by unfold pick2; rw [if_neg (nt h)]))) (by show _ < 4; decide) ?_)
  refine ex_seq (ex_asg (i := 3) (ev_if (R := dat tStr (pick2 "kept" "fresh" x.2 y.2)) (et_test (ev_isT (K := K) ev_str (ev_tupL (K := K) (T := tStr) (xs := [x.2, y.2]) (ea_cons (ev_fld (T := tStr) (a := x.2) (ev_var rfl) T.clP T.na_reserved rfl) (ea_cons (ev_fld (T := tStr) (a := y.2) (ev_var rfl) T.clP T.na_reserved rfl) ea_nil)) (by show 2 ≤ sizeLine; decide)))) (fun h => EvE.is ev_str (by unfold pick2; rw [if_pos h])) (fun h => EvE.is ev_str (by unfold pick2; rw [if_neg (nt h)]))) (by show _ < 4; decide) ?_)
  refine ex_ret (fr_make (m_Por x y) (ea_cons (ev_var rfl) (ea_cons (ev_var rfl) ea_nil)) (m_Por_ok x y) fr_l2) ?_
  rfl
/-! Promise.__and__ -/
abbrev N_P_and : List Str := ["self", "other", "look", "reserved"]
theorem sc_P_and : FnScope N_P_and ["self", "other"] (defScope (mem 33 12)) := ⟨rfl, rfl, rfl, by decide +kernel, rfl, by decide +kernel, by decide +kernel⟩
def m_Pand (x y : Str × Str) : Str × Str := (pick2 "fresh" "kept" x.1 y.1, pick2 "fresh" "kept" x.2 y.2)
theorem m_Pand_ok (x y : Str × Str) : okP2 (m_Pand x y) := ⟨pick2_ok (by decide +kernel) (by decide +kernel), pick2_ok (by decide +kernel) (by decide +kernel)⟩
abbrev sp_P_and : Sp := spF (A := (Str × Str) × Str × Str) (fun a => True) (fun a => [dat (tP T) (dP a.1), dat (tP T) (dP a.2)]) (fun a => fre (oIns T.cP) (dP (m_Pand a.1 a.2)))
theorem g_P_and : On P w K mg base 4 T.cP "__and__" (sp_P_and T) := by
  have nd := sc_P_and.nd
  refine op_of T.m_P_and sc_P_and (lenF fun _ => rfl) (fun _ _ _ _ _ _ us hl => match us, hl with | [_, _], _ => rfl) (fun f cdv A outer s H vs Q E hr h => ⟨_, (pss_cons (ps_if (pt_not (pt_val (pe_callB call_isi (by rfl) T.n_isinstance (by decide +kernel) (pa_cons (pv 1) (pa_cons (pe_glob (v := .ref T.cP) (by rfl) T.g_cP rfl (by decide)) pa_nil))))) (pss_one ps_never) pss_nil) (pss_cons (ps_set (i := 2) nd rfl (by first | exact Or.inl rfl | exact Or.inr rfl) (pe_ifExp (pt_cmpR (op_in_K (K := K) rfl) pe_str (pe_tup (pa_cons (pe_fld (pv 0) rfl) (pa_cons (pe_fld (pv 1) rfl) pa_nil))) (by with_unfolding_all rfl)) pe_str pe_str)) (pss_cons (ps_set (i := 3) nd rfl (by first | exact Or.inl rfl | exact Or.inr rfl) (pe_ifExp (pt_cmpR (op_in_K (K := K) rfl) pe_str (pe_tup (pa_cons (pe_fld (pv 0) rfl) (pa_cons (pe_fld (pv 1) rfl) pa_nil))) (by with_unfolding_all rfl)) pe_str pe_str)) (pss_one (ps_ret (pe_mkR (g_P_init T) hr (by decide) rfl (pa_cons (pv 2) (pa_cons (pv 3) pa_nil)))))))), body_F h fun a B hp => ?_⟩)
  obtain ⟨x, y⟩ := a
  refine ex_seq (ex_if (et_not (et_B (ev_isi (.own T.cP) (ev_var rfl) (ty_ins T.isP T.k_PP)))) (fun h1 => nomatch h1) (fun h1 => ?_))
  refine ex_next ?_
  refine ex_seq (ex_asg (i := 2) (ev_if (R := dat tStr (pick2 "fresh" "kept" x.1 y.1)) (et_test (ev_isT (K := K) ev_str (ev_tupL (K := K) (T := tStr) (xs := [x.1, y.1]) (ea_cons (ev_fld (T := tStr) (a := x.1) (ev_var rfl) T.clP T.na_look rfl) (ea_cons (ev_fld (T := tStr) (a := y.1) (ev_var rfl) T.clP T.na_look rfl) ea_nil)) (by show 2 ≤ sizeLine; decide)))) (fun h => EvE.is ev_str (by unfold pick2; rw [if_pos h])) (fun h => EvE.is ev_str (by unfold pick2; rw [if_neg (nt h)]))) (by show _ < 4; decide) ?_)
  refine ex_seq (ex_asg (i := 3) (ev_if (R := dat tStr (pick2 "fresh" "kept" x.2 y.2)) (et_test (ev_isT (K := K) ev_str (ev_tupL (K := K) (T := tStr) (xs := [x.2, y.2]) (ea_cons (ev_fld (T := tStr) (a := x.2) (ev_var rfl) T.clP T.na_reserved rfl) (ea_cons (ev_fld (T := tStr) (a := y.2) (ev_var rfl) T.clP T.na_reserved rfl) ea_nil)) (by show 2 ≤ sizeLine; decide)))) (fun h => EvE.is ev_str (by unfold pick2; rw [if_pos h])) (fun h => EvE.is ev_str (by unfold pick2; rw [if_neg (nt h)]))) (by show _ < 4; decide) ?_)
  refine ex_ret (fr_make (m_Pand x y) (ea_cons (ev_var rfl) (ea_cons (ev_var rfl) ea_nil)) (m_Pand_ok x y) fr_l2) ?_
  rfl
end
end K79
/-! text D7a -/
set_option maxHeartbeats 1000000
namespace K79
open PySem PySem.Spec PyProof.Rows L2 Sw
local macro_rules | `(tactic| walk_at "side") => `(tactic| first | omega | with_reducible assumption | with_reducible exact True.intro | (simp only [Str.length_append, l_sp, l_emp, l_rs, l_rl, l_rd, sizeLine_eq, List.length_map, List.length_cons, List.length_nil, List.length_append]; first | omega | with_reducible assumption | (have z1 := l_sg _ ‹_ ∈ c_STRONG›; omega)) | (simp only [l_all]; omega) | (rw [‹Txt.split _ _ = _›]; exact rfl) | assumption | decide)
section
variable {P : Program} {w : World} {K : PySem.W.Frag} {mg : Str → Option Value} {base : Heap}
/-! harmful -/
abbrev s_harmful : Stmt := top 37
abbrev N_harmful : List Str := ["entry", "promise", "standing", "deed", "word", "relied"]
theorem sc_harmful : FnScope N_harmful ["entry", "promise"] (defScope s_harmful) := ⟨rfl, rfl, rfl, by decide +kernel, rfl, by decide +kernel, by decide +kernel⟩
def m_harmful (entry : Str) (promise : (Str × Str)) : Bool := (if (!decide ((ixD (m_words_of_entry entry) 1) ∈ c_STRONG)) = true then false else (if (m_can_move (ixD (m_words_of_entry entry) 1) (ixD (m_words_of_entry entry) 2)) = true then true else ((decide ((if (decide ((ixD (m_words_of_entry entry) 0) = ("reserved" : Str))) = true then (promise).2 else (promise).1) = ("kept" : Str))) && (m_can_change (ixD (m_words_of_entry entry) 0) (ixD (m_words_of_entry entry) 1) (ixD (m_words_of_entry entry) 2)))))
theorem woe {e : Str} (h : e ∈ allE) : m_words_of_entry e = Txt.split e " " := by
  obtain ⟨hsp, e0, e1, e2, hle⟩ := e_facts _ h
  unfold m_words_of_entry
  rw [if_neg]
  rw [hsp]
  simp [ix0, ix1, ix2, e0, e1, e2]
abbrev in_harmful {w : World} (K : PySem.W.Frag) {mg : Str → Option Value} (T : Tx w K mg) (a : Str × (Str × Str)) : List SV := [(dat tStr a.1), (dat (tP T) (dP a.2))]
theorem fr_harmful {w : World} {K : PySem.W.Frag} {mg : Str → Option Value} {T : Tx w K mg} (a : Str × (Str × Str)) : ∀ s ∈ in_harmful K T a, Fr s := (fr_cons fr_dat (fr_cons fr_dat fr_nil))
abbrev pre_harmful (a : Str × (Str × Str)) : Prop := a.1 ∈ allE
abbrev sp_harmful {w : World} (K : PySem.W.Frag) {mg : Str → Option Value} (T : Tx w K mg) : Sp := spF (A := Str × (Str × Str)) (fun a => pre_harmful a) (fun a => in_harmful K T a) (fun a => (dat tBl (m_harmful a.1 a.2)))
theorem cl_harmful {T : Tx w K mg} {B : Bas} {ρ ρ1 : List SV} {as : TA} (a : Str × (Str × Str)) (h : EvA B ρ as (in_harmful K T a) ρ1) (hp : pre_harmful a) : EvE B ρ (tCl (sp_harmful K T) as) (dat tBl (m_harmful a.1 a.2)) ρ1 := ev_call (pre := fun a => pre_harmful a) (ins := fun a => in_harmful K T a) (res := fun a => (dat tBl (m_harmful a.1 a.2))) a h hp (fr_harmful a)
theorem g_harmful (T : Tx w K mg) : Gn P w K mg base 3 "harmful" (sp_harmful K T) := by
  have nd := sc_harmful.nd
  refine gn_of T.d_harmful sc_harmful (lenF fun _ => rfl) (fun _ _ _ _ _ _ us hl => match us, hl with | [_, _], _ => rfl) (fun f cdv A outer s H vs Q E hr h => ⟨_, (pss_cons (ps_asg (pe_cl (g_words_of_entry T) hr (by decide) rfl (pa_cons (pv 0) pa_nil)) (pg_lst rfl (pgs_cons (pg_name (i := 2) nd rfl (by first | exact Or.inl rfl | exact Or.inr rfl)) (pgs_cons (pg_name (i := 3) nd rfl (by first | exact Or.inl rfl | exact Or.inr rfl)) (pgs_cons (pg_name (i := 4) nd rfl (by first | exact Or.inl rfl | exact Or.inr rfl)) pgs_nil))))) (pss_cons (ps_if (pt_cmpR (op_notIn_K (K := K) rfl) (pv 3) (pe_gc rfl T.g_STRONG) (by with_unfolding_all rfl)) (pss_one (ps_ret pe_bl)) pss_nil) (pss_cons (ps_if (pt_val (pe_cl (g_can_move T) hr (by decide) rfl (pa_cons (pv 3) (pa_cons (pv 4) pa_nil)))) (pss_one (ps_ret pe_bl)) pss_nil) (pss_cons (ps_set (i := 5) nd rfl (by first | exact Or.inl rfl | exact Or.inr rfl) (pe_ifExp (pt_cmpR op_eq (pv 2) pe_str (nomark _)) (pe_pg (g_P_reserved T) hr (by decide) (pv 1)) (pe_pg (g_P_look T) hr (by decide) (pv 1)))) (pss_one (ps_ret (pe_and (pe_cmpR op_eq (pv 5) pe_str (nomark _)) (pe_one (pe_cl (g_can_change T) hr (by decide) rfl (pa_cons (pv 2) (pa_cons (pv 3) (pa_cons (pv 4) pa_nil)))))))))))), body_F h fun a B hp => ?_⟩)
  obtain ⟨entry, promise⟩ := a
  have hp : entry ∈ allE := hp
  obtain ⟨hsp, e0, e1, e2, hle⟩ := e_facts _ hp
  have g0 : (ixD (Txt.split entry (" " : Str)) 0).length ≤ 10 := l_st _ e0
  have g1 : (ixD (Txt.split entry (" " : Str)) 1).length ≤ 10 := l_de _ e1
  have g2 : (ixD (Txt.split entry (" " : Str)) 2).length ≤ 10 := l_re _ e2
  have gi := l_inv (ixD (Txt.split entry (" " : Str)) 2)
  have gv := rel_inv _ e2
  have ewo := woe hp
  refine ex_seq (ex_unp3 (i := 2) (j := 3) (k := 4) (a := (ixD (m_words_of_entry entry) 0)) (b := (ixD (m_words_of_entry entry) 1)) (c := (ixD (m_words_of_entry entry) 2)) (EvE.row (K := K) (ev_call (ins := in_words_of_entry K T) entry (ea_cons (ev_var rfl) ea_nil) (by first | (rw [ewo, hsp]; rfl) | walk_at "side") (fr_words_of_entry entry))) (by first | (rw [ewo, hsp]; rfl) | walk_at "side") (by show _ < 6; decide) (by show _ < 6; decide) (by show _ < 6; decide) ?_)
  refine ex_seq (ex_if (et_test (ev_niT (ev_var rfl) (ev_sc T.v_STRONG))) (fun h1 => ?_) (fun h1 => ?_))
  · refine ex_ret ev_bl ?_
    exact (congrArg (fun z => (dat tBl z)) (show false = m_harmful entry promise from by unfold m_harmful; rw [if_pos h1]))
  · refine ex_next ?_
    refine ex_seq (ex_if (et_B (ev_call (ins := in_can_move K T) ((ixD (m_words_of_entry entry) 1), (ixD (m_words_of_entry entry) 2)) (ea_cons (ev_var rfl) (ea_cons (ev_var rfl) ea_nil)) trivial (fr_can_move ((ixD (m_words_of_entry entry) 1), (ixD (m_words_of_entry entry) 2))))) (fun h2 => ?_) (fun h2 => ?_))
    · refine ex_ret ev_bl ?_
      exact (congrArg (fun z => (dat tBl z)) (show true = m_harmful entry promise from by unfold m_harmful; rw [if_neg (nt h1), if_pos h2]))
    · refine ex_next ?_
      refine ex_seq (ex_asg (i := 5) (ev_if (R := (dat tStr (if (decide ((ixD (m_words_of_entry entry) 0) = ("reserved" : Str))) = true then (promise).2 else (promise).1))) (et_test (ev_eqS (ev_var rfl) ev_str)) (fun h => EvE.is (ev_pg (pre := fun _ => True) (ins := fun a => [dat (tP T) (dP a)]) (res := fun a => dat tStr a.2) promise rfl (ev_var rfl) trivial) (by rw [if_pos h])) (fun h => EvE.is (ev_pg (pre := fun _ => True) (ins := fun a => [dat (tP T) (dP a)]) (res := fun a => dat tStr a.1) promise rfl (ev_var rfl) trivial) (by rw [if_neg (by rw [h]; exact Bool.false_ne_true)]))) (by show _ < 6; decide) ?_)
      refine ex_ret (ev_and (ev_eqS (ev_var rfl) ev_str) (fun _ => (ev_call (ins := in_can_change K T) ((ixD (m_words_of_entry entry) 0), (ixD (m_words_of_entry entry) 1), (ixD (m_words_of_entry entry) 2)) (ea_cons (ev_var rfl) (ea_cons (ev_var rfl) (ea_cons (ev_var rfl) ea_nil))) trivial (fr_can_change ((ixD (m_words_of_entry entry) 0), (ixD (m_words_of_entry entry) 1), (ixD (m_words_of_entry entry) 2)))))) ?_
      exact (congrArg (fun z => (dat tBl z)) (show ((decide ((if (decide ((ixD (m_words_of_entry entry) 0) = ("reserved" : Str))) = true then (promise).2 else (promise).1) = ("kept" : Str))) && (m_can_change (ixD (m_words_of_entry entry) 0) (ixD (m_words_of_entry entry) 1) (ixD (m_words_of_entry entry) 2))) = m_harmful entry promise from by unfold m_harmful; rw [if_neg (nt h1), if_neg (nt h2)]))
end
end K79
/-! text D7b -/
/-! D7b: what the rules' makers keep to. -/
namespace K79
open PySem PySem.Spec PyProof.Rows L2 Sw
theorem mall_in : ∀ e ∈ m_all_entries, e ∈ allE := fun e h => m_all_eq ▸ h
theorem fil_R (f : Str → Bool) : preR ((m_all_entries.filter f).map fun e => e) := by
  rw [List.map_id']
  exact ⟨Nat.le_trans (List.length_filter_le _ _) (by rw [l_all]; decide), fun e he => mall_in e (List.mem_filter.mp he).1⟩
theorem fr_pre (f : Str → Bool) : pre_gathered_entries ((m_all_entries.filter f).map fun e => e) := preR_g (fil_R f)
theorem fr_len (f : Str → Bool) : ((m_all_entries.filter f).map fun e => e).length ≤ sizeLine := Nat.le_trans (fil_R f).1 (by decide)
theorem known_keys : ((accD (fun _ => true) (fun entry => entry) (fun entry => true) m_all_entries).map (·.1)) = allE := by
  rw [m_all_eq]; decide +kernel
theorem gath_eq (a : List Str) : m_gathered_entries a = allE.filter fun e => dHas (a.foldl st_gathered_entries_1 ([] : List (Str × Bool))) e := by
  unfold m_gathered_entries
  rw [known_keys, List.map_id']
theorem gath_R (a : List Str) : preR (m_gathered_entries a) := by
  rw [gath_eq]
  exact ⟨Nat.le_trans (List.length_filter_le _ _) (by rw [allE_len]; decide), fun e he => (List.mem_filter.mp he).1⟩
end K79
/-! text D7c -/
set_option maxHeartbeats 1000000
namespace K79
open PySem PySem.Spec PyProof.Rows L2 Sw
local macro_rules | `(tactic| walk_at "side") => `(tactic| first | omega | with_reducible assumption | with_reducible exact True.intro | (simp only [Str.length_append, l_sp, l_emp, l_rs, l_rl, l_rd, sizeLine_eq, List.length_map, List.length_cons, List.length_nil, List.length_append]; first | omega | with_reducible assumption | (have z1 := l_sg _ ‹_ ∈ c_STRONG›; omega)) | (simp only [l_all]; omega) | (rw [‹Txt.split _ _ = _›]; exact rfl) | assumption | decide)
section
variable {P : Program} {w : World} {K : PySem.W.Frag} {mg : Str → Option Value} {base : Heap}
/-! freest -/
abbrev s_freest : Stmt := top 38
abbrev N_freest : List Str := ["promise", "rows", "entry"]
theorem sc_freest : FnScope N_freest ["promise"] (defScope s_freest) := ⟨rfl, rfl, rfl, by decide +kernel, rfl, by decide +kernel, by decide +kernel⟩
def m_freest (promise : (Str × Str)) : (List Str) := (m_gathered_entries ((m_all_entries.filter (fun entry => (!(m_harmful entry promise)))).map (fun entry => entry)))
abbrev in_freest {w : World} (K : PySem.W.Frag) {mg : Str → Option Value} (T : Tx w K mg) (a : (Str × Str)) : List SV := [(dat (tP T) (dP a))]
theorem fr_freest {w : World} {K : PySem.W.Frag} {mg : Str → Option Value} {T : Tx w K mg} (a : (Str × Str)) : ∀ s ∈ in_freest K T a, Fr s := (fr_cons fr_dat fr_nil)
abbrev pre_freest (a : (Str × Str)) : Prop := True
abbrev sp_freest {w : World} (K : PySem.W.Frag) {mg : Str → Option Value} (T : Tx w K mg) : Sp := spF (A := (Str × Str)) (fun a => pre_freest a) (fun a => in_freest K T a) (fun a => (fre (oIns T.cR) (dR (m_freest a))))
theorem cl_freest {T : Tx w K mg} {B : Bas} {ρ ρ1 : List SV} {as : TA} (a : (Str × Str)) (h : EvA B ρ as (in_freest K T a) ρ1) (hp : pre_freest a) : EvE B ρ (tCl (sp_freest K T) as) (fre (oIns T.cR) (dR (m_freest a))) ρ1 := ev_call (pre := fun a => pre_freest a) (ins := fun a => in_freest K T a) (res := fun a => (fre (oIns T.cR) (dR (m_freest a)))) a h hp (fr_freest a)
theorem g_freest (T : Tx w K mg) : Gn P w K mg base 6 "freest" (sp_freest K T) := by
  have nd := sc_freest.nd
  refine gn_of T.d_freest sc_freest (lenF fun _ => rfl) (fun _ _ _ _ _ _ us hl => match us, hl with | [_], _ => rfl) (fun f cdv A outer s H vs Q E hr h => ⟨_, (pss_cons (ps_setLc (i := 1) (own := [("entry", 2)]) (g := gName 2) (by rfl) nd rfl rfl (sw_true rfl rfl rfl (by decide +kernel)) (pi_list (pe_cl0 (g_all_entries T) hr (by decide) rfl)) (blkOk_by (own := [("entry", 2)]) (N := N_freest) (sc := defScope s_freest) (by decide +kernel)) (fun _ _ _ _ _ => pg_name (i := 2) nd rfl (Or.inl rfl)) (fun _ _ _ _ _ => (pts_one (pt_not (pt_val (pe_cl (g_harmful T) hr (by decide) rfl (pa_cons (pv 2) (pa_cons (pv 0) pa_nil))))))) (fun _ _ _ _ _ => (pv 2))) (pss_one (ps_ret (pe_mkS (g_R_init T) hr (by decide) rfl (pv 1))))), body_F h fun promise B hp => ?_⟩)
  refine ex_seq (ex_asg (i := 1) ((ev_lcL (U := tStr) (fun entry => (!(m_harmful entry promise))) (fun entry => entry) (EvE.row (K := K) ((ev_call (ins := in_all_entries K T) () ea_nil trivial (fr_all_entries ()))).lst) (by show _ < 3; decide) (by first | exact fr_pre _ | exact fr_len _ | exact mall_in _ m_entry | walk_at "side") (fun entry m_entry => (et_not (et_B (ev_call (ins := in_harmful K T) (entry, promise) (ea_cons (ev_var rfl) (ea_cons (ev_var rfl) ea_nil)) (by first | exact fr_pre _ | exact fr_len _ | exact mall_in _ m_entry | walk_at "side") (fr_harmful (entry, promise)))))) (fun entry m_entry _ => (ev_var rfl)))).lst (by show _ < 3; decide) ?_)
  refine ex_ret (fr_makeT (T := tStr) (xs := ((m_all_entries.filter (fun entry => (!(m_harmful entry promise)))).map (fun entry => entry))) ((m_all_entries.filter (fun entry => (!(m_harmful entry promise)))).map (fun entry => entry)) rfl (EvE.row (K := K) (ev_var rfl)) (by first | exact fr_pre _ | exact fr_len _ | exact mall_in _ m_entry | walk_at "side") (by first | exact fr_pre _ | exact fr_len _ | exact mall_in _ m_entry | walk_at "side")) ?_
  exact (congrArg (fun z => (fre (oIns T.cR) (dR z))) (show (m_gathered_entries ((m_all_entries.filter (fun entry => (!(m_harmful entry promise)))).map (fun entry => entry))) = m_freest promise from rfl))
end
end K79
/-! text D8 -/
set_option maxHeartbeats 1000000
/-! D8: is_sound, Rule.read -/
namespace K79
open PySem PySem.Spec PyProof.Rows L2 Sw ItX
section
variable {P : Program} {w : World} {K : PySem.W.Frag} {mg : Str → Option Value} {base : Heap} (T : Tx w K mg)
/-! is_sound -/
abbrev N_is_sound : List Str := ["rule", "promise"]
theorem sc_is_sound : FnScope N_is_sound ["rule", "promise"] (defScope (top 40)) := ⟨rfl, rfl, rfl, by decide +kernel, rfl, by decide +kernel, by decide +kernel⟩
abbrev m_sound (a : List Str) (p : Str × Str) : Bool := m_le a (m_freest p)
abbrev sp_is_sound : Sp := spF (A := List Str × Str × Str) (fun a => preR a.1) (fun a => [dat (tR T) (dR a.1), dat (tP T) (dP a.2)]) (fun a => dat tBl (m_sound a.1 a.2))
theorem freest_R (p : Str × Str) : preR (m_freest p) := gath_R _
theorem g_is_sound : Gn P w K mg base 7 "is_sound" (sp_is_sound T) := by
  have nd := sc_is_sound.nd
  refine gn_of T.d_is_sound sc_is_sound (lenF fun _ => rfl) (fun _ _ _ _ _ _ us hl => match us, hl with | [_, _], _ => rfl) (fun f cdv A outer s H vs Q E hr h => ⟨_, (pss_one (ps_ret (pe_cmpR (on_le (g_R_le T) hr (by decide) T.nfR) (pv 0) (pe_cl (g_freest T) hr (by decide) rfl (pa_cons (pv 1) pa_nil)) (nomark _)))), body_F h fun a B hp => ?_⟩)
  obtain ⟨x, p⟩ := a
  refine ex_ret (ev_own2 (pre := fun a : List Str × List Str => preR a.1 ∧ preR a.2) (ins := fun a => [dat (tR T) (dR a.1), dat (tR T) (dR a.2)]) (res := fun a => dat tBl (m_le a.1 a.2)) (x, m_freest p) rfl (ev_var rfl) (cl_freest p (ea_cons (ev_var rfl) ea_nil) trivial).ins ⟨hp, freest_R p⟩) ?_
  rfl
theorem ev_at {B : Bas} {ρ ρ1 : List SV} {i : Nat} {x : V} {te : TE} {R : SV} (h : ρ[i]? = some (isv x)) (k : EvE B ρ te R ρ1) : EvE B ρ (fun σ H Q => σ[i]? = some (some x) ∧ te σ H Q) R ρ1 := fun H σ τ Q st q => by
  obtain ⟨v, e, hm⟩ := mem_zip st.len h
  obtain ⟨F, fs, c⟩ := st.core
  obtain ⟨fp, _, _, h2⟩ := Sl.mem c.sl (List.mem_append_right τ hm)
  exact ⟨by rw [e]; exact congrArg some h2, k H σ τ Q st q⟩
/-! Rule.read -/
abbrev N_R_read : List Str := ["cls", "text", "rule", "at", "line", "why"]
theorem sc_R_read : FnScope N_R_read ["cls", "text"] (defScope (mem 29 2)) := ⟨rfl, rfl, rfl, by decide +kernel, rfl, by decide +kernel, by decide +kernel⟩
def m_read (text : Str) : List Str := if text = "" then m_gathered_entries [] else (Txt.split text "\n").foldl (fun r l => m_with_both r (m_expand l)) (m_gathered_entries [])
theorem wb_R (a b : List Str) : preR (m_with_both a b) := by
  unfold m_with_both m_in_order
  exact fil_R _
theorem fold_R (ls : List Str) (a : List Str) (h : preR a) : preR (ls.foldl (fun r l => m_with_both r (m_expand l)) a) := by
  induction ls generalizing a with
  | nil => exact h
  | cons l ls ih => exact ih _ (wb_R _ _)
abbrev sp_R_read : Sp := spF (A := Str) (fun a => a.length ≤ 100000 ∧ (a ≠ "" → ∀ l ∈ Txt.split a "\n", preX l)) (fun a => [isv (.ref T.cR), dat tStr a]) (fun a => fre (oIns T.cR) (dR (m_read a)))
theorem g_R_read : Cln P w K mg base 8 T.cR "read" (sp_R_read T) := by
  have nd := sc_R_read.nd
  refine cl_of T.m_R_read sc_R_read (lenF fun _ => rfl) (fun _ _ _ _ _ _ us hl => match us, hl with | [_, _], _ => rfl) (fun f cdv A outer s H vs Q E hr h => ⟨_, (pss_cons (ps_set (i := 2) nd rfl (by first | exact Or.inl rfl | exact Or.inr rfl) (pe_mkL0 (i := 0) (g_R_init T) hr (by decide) rfl (by first | exact Or.inl rfl | exact Or.inr (Or.inl rfl)))) (pss_cons (ps_if (pt_cmpR op_eq (pv 1) pe_str (nomark _)) (pss_one (ps_ret (pv 2))) pss_nil) (pss_cons (ps_for PassesOwn.never rfl (pi_enum (by rfl) T.n_enumerate (pa_cons (pe_split (pv 1) pe_str) pa_nil)) (pg_tup rfl (pgs_cons (pg_name (i := 3) nd rfl (by first | exact Or.inl rfl | exact Or.inr rfl)) (pgs_cons (pg_name (i := 4) nd rfl (by first | exact Or.inl rfl | exact Or.inr rfl)) pgs_nil))) (pss_one (ps_try_pass (fun _ => (pss_one (ps_aug (i := 2) nd rfl (by first | exact Or.inl rfl | exact Or.inr rfl) (pv 4) (on_ip (g_R_ior T) hr (by decide)))))))) (pss_one (ps_ret (pv 2)))))), body_F h fun a B hp => ?_⟩)
  obtain ⟨h1, h2⟩ := hp
  have g0 : pre_gathered_entries [] := ⟨by decide, fun p hp => nomatch hp⟩
  refine ex_seq (ex_asgO (i := 2) (ev_at (i := 0) rfl (fr_makeA (T := tStr) (xs := ([] : List Str)) [] rfl ea_nil g0 (by show 0 ≤ sizeLine; decide))) (by show _ < 6; decide) oat_ins (fun p hp => ?_))
  refine ex_seq (ex_if (et_test (ev_eqS (ev_var rfl) ev_str)) (fun h3 => ?_) (fun h3 => ?_))
  · refine ex_retO (i := 2) rfl hp oat_ins ?_
    exact congrArg (fun z => fre (oIns T.cR) (dR z)) (show _ = m_read a from by unfold m_read; rw [if_pos (of_decide_eq_true h3)])
  refine ex_next ?_
  refine ex_seq (ex_forE (T := tStr) (xs := Txt.split a "
") (fun n => [isv (.ref T.cR), dat tStr a, own (.ref p) (oIns T.cR) (dR (((Txt.split a "
").take n).foldl (fun r l => m_with_both r (m_expand l)) (m_gathered_entries []))), any, any, any])
    (ea_cons (EvE.row (K := K) (fr_split rfl (ev_var rfl) ev_str (by first | rfl | decide +kernel) (by rw [sizeLine_eq]; omega)).lst) ea_nil) (.keep (.keep (.keep (.keep (.keep (.keep EntL.nil)))))) (fun _ => by show _ < 6; decide) (fun _ => by show _ < 6; decide) (fun n l hl => ?_) ?_)
  · refine ex_ip (i := 2) (x := .non) (pre := fun a : List Str × Str => preR a.1 ∧ preX a.2) (s0 := fun a => dR a.1) (s1 := fun a => dR (m_with_both a.1 (m_expand a.2))) (ins := fun a => [dat tStr a.2]) (T := tStr) (a := l) (((Txt.split a "
").take n).foldl (fun r l => m_with_both r (m_expand l)) (m_gathered_entries []), l) rfl rfl (ev_var rfl) ⟨fold_R _ _ (gath_R _), h2 (fun z => by rw [decide_eq_true z] at h3; cases h3) l (List.mem_of_getElem? hl)⟩ ?_
    have e : (Txt.split a "
").take (n + 1) = (Txt.split a "
").take n ++ [l] := by
      obtain ⟨hl', ez⟩ := List.getElem?_eq_some_iff.mp hl
      rw [List.take_succ_eq_append_getElem hl', ez]
    exact .keep (.keep (.keepE (congrArg (fun z => own (.ref p) (oIns T.cR) (dR z)) (show _ = _ from by rw [e, List.foldl_append]; rfl)) (.forget (.forget (.keep EntL.nil)))))
  · refine ex_retO (i := 2) rfl hp oat_ins ?_
    exact congrArg (fun z => fre (oIns T.cR) (dR z)) (show _ = m_read a from by unfold m_read; rw [if_neg (fun z => by rw [decide_eq_true z] at h3; cases h3), List.take_length])
end
end K79
/-! text D9 -/
set_option maxHeartbeats 1000000
namespace K79
open PySem PySem.Spec PyProof.Rows L2 Sw
local macro_rules | `(tactic| walk_at "side") => `(tactic| first | omega | with_reducible assumption | with_reducible exact True.intro | (simp only [Str.length_append, l_sp, l_emp, l_rs, l_rl, l_rd, sizeLine_eq, List.length_map, List.length_cons, List.length_nil, List.length_append]; first | omega | with_reducible assumption | (have z1 := l_sg _ ‹_ ∈ c_STRONG›; omega)) | (simp only [l_all]; omega) | (rw [‹Txt.split _ _ = _›]; exact rfl) | assumption | decide)
section
variable {P : Program} {w : World} {K : PySem.W.Frag} {mg : Str → Option Value} {base : Heap}
/-! _law_entries -/
abbrev s__law_entries : Stmt := top 53
abbrev N__law_entries : List Str := ["rows", "standing", "deed", "word"]
theorem sc__law_entries : FnScope N__law_entries [] (defScope s__law_entries) := ⟨rfl, rfl, rfl, by decide +kernel, rfl, by decide +kernel, by decide +kernel⟩
def st__law_entries_3 (standing : Str) (deed : Str) (s3 : (List Str)) (word : Str) : (List Str) := (s3 ++ [((((standing ++ (" " : Str)) ++ deed) ++ (" " : Str)) ++ word)])
def st__law_entries_2 (standing : Str) (s2 : (List Str)) (deed : Str) : (List Str) := (m__law_relations.foldl (st__law_entries_3 standing deed) s2)
def st__law_entries_1 (s1 : (List Str)) (standing : Str) : (List Str) := (m__law_deeds.foldl (st__law_entries_2 standing) s1)
def m__law_entries : (List Str) := (m__law_standings.foldl st__law_entries_1 ([] : List Str))
theorem len_e3 (a b : Str) : ∀ (xs : List Str) (s : List Str), (xs.foldl (st__law_entries_3 a b) s).length ≤ s.length + xs.length
  | [], s => Nat.le_refl _
  | x :: xs, s => by
    have h1 := len_e3 a b xs (st__law_entries_3 a b s x)
    have h2 : (st__law_entries_3 a b s x).length = s.length + 1 := by unfold st__law_entries_3; rw [List.length_append]; rfl
    rw [List.foldl_cons, List.length_cons]
    omega
theorem len_e2 (a : Str) : ∀ (xs : List Str) (s : List Str), (xs.foldl (st__law_entries_2 a) s).length ≤ s.length + 5 * xs.length
  | [], s => by simp
  | x :: xs, s => by
    have h1 := len_e2 a xs (st__law_entries_2 a s x)
    have h2 : (st__law_entries_2 a s x).length ≤ s.length + 5 := len_e3 a x m__law_relations s
    rw [List.foldl_cons, List.length_cons]
    omega
theorem len_e1 : ∀ (xs : List Str) (s : List Str), (xs.foldl st__law_entries_1 s).length ≤ s.length + 35 * xs.length
  | [], s => by simp
  | x :: xs, s => by
    have h1 := len_e1 xs (st__law_entries_1 s x)
    have h2 : (st__law_entries_1 s x).length ≤ s.length + 5 * 7 := len_e2 x m__law_deeds s
    rw [List.foldl_cons, List.length_cons]
    omega
abbrev in__law_entries {w : World} (K : PySem.W.Frag) {mg : Str → Option Value} (T : Tx w K mg) (a : Unit) : List SV := []
theorem fr__law_entries {w : World} {K : PySem.W.Frag} {mg : Str → Option Value} {T : Tx w K mg} (a : Unit) : ∀ s ∈ in__law_entries K T a, Fr s := fr_nil
abbrev pre__law_entries (a : Unit) : Prop := True
abbrev sp__law_entries {w : World} (K : PySem.W.Frag) {mg : Str → Option Value} (T : Tx w K mg) : Sp := spF (A := Unit) (fun a => pre__law_entries a) (fun a => in__law_entries K T a) (fun a => (fre (oList tStr) (m__law_entries)))
theorem cl__law_entries {T : Tx w K mg} {B : Bas} {ρ ρ1 : List SV} {as : TA} (a : Unit) (h : EvA B ρ as (in__law_entries K T a) ρ1) (hp : pre__law_entries a) : EvE B ρ (tCl (sp__law_entries K T) as) (fre (oList tStr) (m__law_entries)) ρ1 := ev_call (pre := fun a => pre__law_entries a) (ins := fun a => in__law_entries K T a) (res := fun a => (fre (oList tStr) (m__law_entries))) a h hp (fr__law_entries a)
theorem g__law_entries (T : Tx w K mg) : Gn P w K mg base 2 "_law_entries" (sp__law_entries K T) := by
  have nd := sc__law_entries.nd
  refine gn_of T.d__law_entries sc__law_entries (lenF fun _ => rfl) (fun _ _ _ _ _ _ us hl => match us, hl with | [], _ => rfl) (fun f cdv A outer s H vs Q E hr h => ⟨_, (pss_cons (ps_set (i := 0) nd rfl (by first | exact Or.inl rfl | exact Or.inr rfl) (pe_lst pa_nil)) (pss_cons (ps_for PassesOwn.never rfl (pi_list (pe_cl0 (g__law_standings T) hr (by decide) rfl)) (pg_name (i := 1) nd rfl (by first | exact Or.inl rfl | exact Or.inr rfl)) (pss_one (ps_for PassesOwn.never rfl (pi_list (pe_cl0 (g__law_deeds T) hr (by decide) rfl)) (pg_name (i := 2) nd rfl (by first | exact Or.inl rfl | exact Or.inr rfl)) (pss_one (ps_for PassesOwn.never rfl (pi_list (pe_cl0 (g__law_relations T) hr (by decide) rfl)) (pg_name (i := 3) nd rfl (by first | exact Or.inl rfl | exact Or.inr rfl)) (pss_one (ps_expr (pe_bm PySem.F.plainAttrs_list PySem.F.slot_list_append PySem.F.type_list_append mt_append (pv 0) (pa_cons (pe_op op_add_str (pe_op op_add_str (pe_op op_add_str (pe_op op_add_str (pv 1) pe_str) (pv 2)) pe_str) (pv 3)) pa_nil))))))))) (pss_one (ps_ret (pv 0))))), body_F h fun a B hp => ?_⟩)
  refine ex_seq (ex_asgO (i := 0) (fr_lst (T := tStr) (xs := ([] : List Str)) ea_nil (by show 0 ≤ sizeLine; decide)) (by show _ < 4; decide) oat_list (fun p_rows hp_rows => ?_))
  refine ex_seq (ex_forLF (S := (List Str)) (fun s1 : (List Str) => [(own (.ref p_rows) (oList tStr) s1), any, any, any]) st__law_entries_1 ([] : List Str) (EvE.row (K := K) ((ev_call (ins := in__law_standings K T) () ea_nil trivial (fr__law_standings ()))).lst) (.keep (.forget (.forget (.forget EntL.nil)))) (fun _ => by show _ < 4; decide) (fun pre post standing hx => ?_) ?_)
  · generalize hS : pre.foldl st__law_entries_1 ([] : List Str) = s1
    have i1 : s1.length ≤ 35 * pre.length := by rw [← hS]; have := len_e1 pre []; simpa using this
    have q1 : pre.length ≤ 3 := by have h5 : m__law_standings.length = 3 := rfl; rw [hx] at h5; simp at h5; omega
    have w1 : standing.length ≤ 10 := l_st _ (show standing ∈ m__law_standings from by rw [hx]; simp)
    refine ex_forLF (S := (List Str)) (fun s2 : (List Str) => [(own (.ref p_rows) (oList tStr) s2), (dat tStr standing), any, any]) (st__law_entries_2 standing) s1 (EvE.row (K := K) ((ev_call (ins := in__law_deeds K T) () ea_nil trivial (fr__law_deeds ()))).lst) (.keep (.keep (.forget (.forget EntL.nil)))) (fun _ => by show _ < 4; decide) (fun pre post deed hx => ?_) ?_
    · generalize hS : pre.foldl (st__law_entries_2 standing) s1 = s2
      have i2 : s2.length ≤ s1.length + 5 * pre.length := by rw [← hS]; exact len_e2 standing pre s1
      have q2 : pre.length ≤ 7 := by have h5 : m__law_deeds.length = 7 := rfl; rw [hx] at h5; simp at h5; omega
      have w2 : deed.length ≤ 10 := l_de _ (show deed ∈ m__law_deeds from by rw [hx]; simp)
      refine ex_forLF (S := (List Str)) (fun s3 : (List Str) => [(own (.ref p_rows) (oList tStr) s3), (dat tStr standing), (dat tStr deed), any]) (st__law_entries_3 standing deed) s2 (EvE.row (K := K) ((ev_call (ins := in__law_relations K T) () ea_nil trivial (fr__law_relations ()))).lst) (.keep (.keep (.keep (.forget EntL.nil)))) (fun _ => by show _ < 4; decide) (fun pre post word hx => ?_) ?_
      · generalize hS : pre.foldl (st__law_entries_3 standing deed) s2 = s3
        have i3 : s3.length ≤ s2.length + pre.length := by rw [← hS]; exact len_e3 standing deed pre s2
        have q3 : pre.length ≤ 5 := by have h5 : m__law_relations.length = 5 := rfl; rw [hx] at h5; simp at h5; omega
        have w3 : word.length ≤ 10 := l_re _ (show word ∈ m__law_relations from by rw [hx]; simp)
        refine ex_append (i := 0) rfl (ev_addS (ev_addS (ev_addS (ev_addS (ev_var rfl) ev_str (by walk_at "side")) (ev_var rfl) (by walk_at "side")) ev_str (by walk_at "side")) (ev_var rfl) (by walk_at "side")) rfl (by walk_at "side") ?_
        exact (.keepE (congrArg (fun z => (own (.ref p_rows) (oList tStr) z)) (show (s3 ++ [((((standing ++ (" " : Str)) ++ deed) ++ (" " : Str)) ++ word)]) = ((st__law_entries_3 standing deed) s3 word) from rfl)) (.keep (.keep (.forget EntL.nil))))
      exact (.keepE (congrArg (fun z => (own (.ref p_rows) (oList tStr) z)) (show (m__law_relations.foldl (st__law_entries_3 standing deed) s2) = ((st__law_entries_2 standing) s2 deed) from rfl)) (.keep (.forget (.forget EntL.nil))))
    exact (.keepE (congrArg (fun z => (own (.ref p_rows) (oList tStr) z)) (show (m__law_deeds.foldl (st__law_entries_2 standing) s1) = (st__law_entries_1 s1 standing) from rfl)) (.forget (.forget (.forget EntL.nil))))
  refine ex_retO (i := 0) rfl hp_rows oat_list ?_
  exact (congrArg (fun z => (fre (oList tStr) z)) (show (m__law_standings.foldl st__law_entries_1 ([] : List Str)) = m__law_entries from rfl))
/-! _law_harmful -/
abbrev s__law_harmful : Stmt := top 54
abbrev N__law_harmful : List Str := ["entry", "look", "reserved", "standing", "deed", "word", "relied"]
theorem sc__law_harmful : FnScope N__law_harmful ["entry", "look", "reserved"] (defScope s__law_harmful) := ⟨rfl, rfl, rfl, by decide +kernel, rfl, by decide +kernel, by decide +kernel⟩
def m__law_harmful (entry : Str) (look : Str) (reserved : Str) : Bool := (if ((decide ((ixD (Txt.split entry (" " : Str)) 1) ∈ ([("pack" : Str), ("work" : Str)] : List Str))) && (decide ((ixD (Txt.split entry (" " : Str)) 2) = ("overbox" : Str)))) = true then true else (if ((decide ((if (decide ((ixD (Txt.split entry (" " : Str)) 0) = ("reserved" : Str))) = true then reserved else look) = ("fresh" : Str))) || (decide ((ixD (Txt.split entry (" " : Str)) 1) ∈ ([("see" : Str), ("lend" : Str), ("reserve" : Str), ("pack" : Str)] : List Str)))) = true then false else (if (decide ((ixD (Txt.split entry (" " : Str)) 1) = ("mark" : Str))) = true then ((decide ((ixD (Txt.split entry (" " : Str)) 2) = ("same" : Str))) || ((!decide ((ixD (Txt.split entry (" " : Str)) 0) = ("peek" : Str))) && (decide ((ixD (Txt.split entry (" " : Str)) 2) ∈ ([("under" : Str), ("underbox" : Str)] : List Str))))) else ((!decide ((ixD (Txt.split entry (" " : Str)) 0) = ("peek" : Str))) || (decide ((ixD (Txt.split entry (" " : Str)) 2) ∈ ([("same" : Str), ("over" : Str), ("overbox" : Str)] : List Str)))))))
abbrev in__law_harmful {w : World} (K : PySem.W.Frag) {mg : Str → Option Value} (T : Tx w K mg) (a : Str × Str × Str) : List SV := [(dat tStr a.1), (dat tStr a.2.1), (dat tStr a.2.2)]
theorem fr__law_harmful {w : World} {K : PySem.W.Frag} {mg : Str → Option Value} {T : Tx w K mg} (a : Str × Str × Str) : ∀ s ∈ in__law_harmful K T a, Fr s := (fr_cons fr_dat (fr_cons fr_dat (fr_cons fr_dat fr_nil)))
abbrev pre__law_harmful (a : Str × Str × Str) : Prop := a.1 ∈ allE
abbrev sp__law_harmful {w : World} (K : PySem.W.Frag) {mg : Str → Option Value} (T : Tx w K mg) : Sp := spF (A := Str × Str × Str) (fun a => pre__law_harmful a) (fun a => in__law_harmful K T a) (fun a => (dat tBl (m__law_harmful a.1 a.2.1 a.2.2)))
theorem cl__law_harmful {T : Tx w K mg} {B : Bas} {ρ ρ1 : List SV} {as : TA} (a : Str × Str × Str) (h : EvA B ρ as (in__law_harmful K T a) ρ1) (hp : pre__law_harmful a) : EvE B ρ (tCl (sp__law_harmful K T) as) (dat tBl (m__law_harmful a.1 a.2.1 a.2.2)) ρ1 := ev_call (pre := fun a => pre__law_harmful a) (ins := fun a => in__law_harmful K T a) (res := fun a => (dat tBl (m__law_harmful a.1 a.2.1 a.2.2))) a h hp (fr__law_harmful a)
theorem g__law_harmful (T : Tx w K mg) : Gn P w K mg base 1 "_law_harmful" (sp__law_harmful K T) := by
  have nd := sc__law_harmful.nd
  refine gn_of T.d__law_harmful sc__law_harmful (lenF fun _ => rfl) (fun _ _ _ _ _ _ us hl => match us, hl with | [_, _, _], _ => rfl) (fun f cdv A outer s H vs Q E hr h => ⟨_, (pss_cons (ps_asg (pe_split (pv 0) pe_str) (pg_lst rfl (pgs_cons (pg_name (i := 3) nd rfl (by first | exact Or.inl rfl | exact Or.inr rfl)) (pgs_cons (pg_name (i := 4) nd rfl (by first | exact Or.inl rfl | exact Or.inr rfl)) (pgs_cons (pg_name (i := 5) nd rfl (by first | exact Or.inl rfl | exact Or.inr rfl)) pgs_nil))))) (pss_cons (ps_set (i := 6) nd rfl (by first | exact Or.inl rfl | exact Or.inr rfl) (pv 1)) (pss_cons (ps_if (pt_cmpR op_eq (pv 3) pe_str (nomark _)) (pss_one (ps_set (i := 6) nd rfl (by first | exact Or.inl rfl | exact Or.inr rfl) (pv 2))) pss_nil) (pss_cons (ps_if (PW.pt (pw_and (pt_cmpR (op_in_K (K := K) rfl) (pv 4) (pe_lst (pa_cons pe_str (pa_cons pe_str pa_nil))) (by with_unfolding_all rfl)) (pw_and1 (pt_cmpR op_eq (pv 5) pe_str (nomark _))))) (pss_one (ps_ret pe_bl)) pss_nil) (pss_cons (ps_if (PW.pt (pw_or (pt_cmpR op_eq (pv 6) pe_str (nomark _)) (pw_or1 (pt_cmpR (op_in_K (K := K) rfl) (pv 4) (pe_lst (pa_cons pe_str (pa_cons pe_str (pa_cons pe_str (pa_cons pe_str pa_nil))))) (by with_unfolding_all rfl))))) (pss_one (ps_ret pe_bl)) pss_nil) (pss_cons (ps_if (pt_cmpR op_eq (pv 4) pe_str (nomark _)) (pss_one (ps_ret (pe_or (pe_cmpR op_eq (pv 5) pe_str (nomark _)) (pe_one (pe_and (pe_cmpR op_ne (pv 3) pe_str (nomark _)) (pe_one (pe_cmpR (op_in_K (K := K) rfl) (pv 5) (pe_lst (pa_cons pe_str (pa_cons pe_str pa_nil))) (by with_unfolding_all rfl)))))))) pss_nil) (pss_one (ps_ret (pe_or (pe_cmpR op_ne (pv 3) pe_str (nomark _)) (pe_one (pe_cmpR (op_in_K (K := K) rfl) (pv 5) (pe_lst (pa_cons pe_str (pa_cons pe_str (pa_cons pe_str pa_nil)))) (by with_unfolding_all rfl)))))))))))), body_F h fun a B hp => ?_⟩)
  obtain ⟨entry, look, reserved⟩ := a
  have hp : entry ∈ allE := hp
  obtain ⟨hsp, e0, e1, e2, hle⟩ := e_facts _ hp
  have g0 : (ixD (Txt.split entry (" " : Str)) 0).length ≤ 10 := l_st _ e0
  have g1 : (ixD (Txt.split entry (" " : Str)) 1).length ≤ 10 := l_de _ e1
  have g2 : (ixD (Txt.split entry (" " : Str)) 2).length ≤ 10 := l_re _ e2
  have gi := l_inv (ixD (Txt.split entry (" " : Str)) 2)
  have gv := rel_inv _ e2
  refine ex_seq (ex_unp3 (i := 3) (j := 4) (k := 5) (a := (ixD (Txt.split entry (" " : Str)) 0)) (b := (ixD (Txt.split entry (" " : Str)) 1)) (c := (ixD (Txt.split entry (" " : Str)) 2)) (EvE.row (K := K) ((fr_split rfl (ev_var rfl) ev_str (by first | rfl | decide +kernel) (by walk_at "side"))).lst) (by walk_at "side") (by show _ < 7; decide) (by show _ < 7; decide) (by show _ < 7; decide) ?_)
  refine ex_seq (ex_asg (i := 6) (ev_var rfl) (by show _ < 7; decide) ?_)
  refine ex_seqJ [(dat tStr entry), (dat tStr look), (dat tStr reserved), (dat tStr (ixD (Txt.split entry (" " : Str)) 0)), (dat tStr (ixD (Txt.split entry (" " : Str)) 1)), (dat tStr (ixD (Txt.split entry (" " : Str)) 2)), (dat tStr (if (decide ((ixD (Txt.split entry (" " : Str)) 0) = ("reserved" : Str))) = true then reserved else look))] (ex_if (et_test (ev_eqS (ev_var rfl) ev_str)) (fun h1 => ?_) (fun h1 => ?_)) ?_
  · refine ex_asg (i := 6) (ev_var rfl) (by show _ < 7; decide) ?_
    exact (.keep (.keep (.keep (.keep (.keep (.keep (.keepE (by rw [if_pos h1]) EntL.nil)))))))
  · refine ex_next ?_
    exact (.keep (.keep (.keep (.keep (.keep (.keep (.keepE (by rw [if_neg (nt h1)]) EntL.nil)))))))
  refine ex_seq (ex_if (et_and (et_test (ev_isL (ev_var rfl) (EvE.row (K := K) ((fr_lst (T := tStr) (xs := ([("pack" : Str), ("work" : Str)] : List Str)) (ea_cons ev_str (ea_cons ev_str ea_nil)) (by show 2 ≤ sizeLine; decide))).lst))) (fun _ => (et_test (ev_eqS (ev_var rfl) ev_str)))) (fun h102 => ?_) (fun h102 => ?_))
  · refine ex_ret ev_bl ?_
    exact (congrArg (fun z => (dat tBl z)) (show true = m__law_harmful entry look reserved from by unfold m__law_harmful; rw [if_pos h102]))
  · refine ex_next ?_
    refine ex_seq (ex_if (et_or (et_test (ev_eqS (ev_var rfl) ev_str)) (fun _ => (et_test (ev_isL (ev_var rfl) (EvE.row (K := K) ((fr_lst (T := tStr) (xs := ([("see" : Str), ("lend" : Str), ("reserve" : Str), ("pack" : Str)] : List Str)) (ea_cons ev_str (ea_cons ev_str (ea_cons ev_str (ea_cons ev_str ea_nil)))) (by show 4 ≤ sizeLine; decide))).lst))))) (fun h103 => ?_) (fun h103 => ?_))
    · refine ex_ret ev_bl ?_
      exact (congrArg (fun z => (dat tBl z)) (show false = m__law_harmful entry look reserved from by unfold m__law_harmful; rw [if_neg (nt h102), if_pos h103]))
    · refine ex_next ?_
      refine ex_seq (ex_if (et_test (ev_eqS (ev_var rfl) ev_str)) (fun h104 => ?_) (fun h104 => ?_))
      · refine ex_ret (ev_or (ev_eqS (ev_var rfl) ev_str) (fun _ => (ev_and (ev_neS (ev_var rfl) ev_str) (fun _ => (ev_isL (ev_var rfl) (EvE.row (K := K) ((fr_lst (T := tStr) (xs := ([("under" : Str), ("underbox" : Str)] : List Str)) (ea_cons ev_str (ea_cons ev_str ea_nil)) (by show 2 ≤ sizeLine; decide))).lst)))))) ?_
        exact (congrArg (fun z => (dat tBl z)) (show ((decide ((ixD (Txt.split entry (" " : Str)) 2) = ("same" : Str))) || ((!decide ((ixD (Txt.split entry (" " : Str)) 0) = ("peek" : Str))) && (decide ((ixD (Txt.split entry (" " : Str)) 2) ∈ ([("under" : Str), ("underbox" : Str)] : List Str))))) = m__law_harmful entry look reserved from by unfold m__law_harmful; rw [if_neg (nt h102), if_neg (nt h103), if_pos h104]))
      · refine ex_next ?_
        refine ex_ret (ev_or (ev_neS (ev_var rfl) ev_str) (fun _ => (ev_isL (ev_var rfl) (EvE.row (K := K) ((fr_lst (T := tStr) (xs := ([("same" : Str), ("over" : Str), ("overbox" : Str)] : List Str)) (ea_cons ev_str (ea_cons ev_str (ea_cons ev_str ea_nil))) (by show 3 ≤ sizeLine; decide))).lst)))) ?_
        exact (congrArg (fun z => (dat tBl z)) (show ((!decide ((ixD (Txt.split entry (" " : Str)) 0) = ("peek" : Str))) || (decide ((ixD (Txt.split entry (" " : Str)) 2) ∈ ([("same" : Str), ("over" : Str), ("overbox" : Str)] : List Str)))) = m__law_harmful entry look reserved from by unfold m__law_harmful; rw [if_neg (nt h102), if_neg (nt h103), if_neg (nt h104)]))
end
end K79
/-! text D10 -/
set_option maxHeartbeats 1000000
/-! D10: _law_inverse -/
namespace K79
open PySem PySem.Spec PyProof.Rows L2 Sw ItX
section
variable {P : Program} {w : World} {K : PySem.W.Frag} {mg : Str → Option Value} {base : Heap} (T : Tx w K mg)
abbrev N__law_inverse : List Str := ["word"]
theorem sc__law_inverse : FnScope N__law_inverse ["word"] (defScope (top 52)) := ⟨rfl, rfl, rfl, by decide +kernel, rfl, by decide +kernel, by decide +kernel⟩
theorem all_entries_eq : m__law_entries = allE := by decide +kernel
abbrev ixW (word : Str) : Nat := c_RELATIONS.findIdx fun x => decide (x = word)
theorem ixW_ok : ∀ word ∈ c_RELATIONS, c_RELATIONS[ixW word]? = some word ∧ (∀ m, m < ixW word → c_RELATIONS[m]? ≠ some word) ∧ atI (["same", "under", "underbox", "over", "overbox"] : List Str) (ixW word : Int) = some (m_inverse word) := by decide +kernel
abbrev sp__law_inverse : Sp := spF (A := Str) (fun a => a ∈ c_RELATIONS) (fun a => [dat tStr a]) (fun a => dat tStr (m_inverse a))
theorem g__law_inverse (T : Tx w K mg) : Gn P w K mg base 2 "_law_inverse" sp__law_inverse := by
  have nd := sc__law_inverse.nd
  refine gn_of T.d__law_inverse sc__law_inverse (lenF fun _ => rfl) (fun _ _ _ _ _ _ us hl => match us, hl with | [_], _ => rfl) (fun f cdv A outer s H vs Q E hr h => ⟨_, (pss_one (ps_ret (pe_ix ix_list (pe_lst (pa_cons pe_str (pa_cons pe_str (pa_cons pe_str (pa_cons pe_str (pa_cons pe_str pa_nil)))))) (pe_bm PySem.F.plainAttrs_list PySem.F.slot_list_index PySem.F.type_list_index mt_index (pe_cl0 (g__law_relations T) hr (by decide) rfl) (pa_cons (pv 0) pa_nil)) (fun _ _ => rfl)))), body_F h fun a B hp => ?_⟩)
  obtain ⟨h1, h2, h3⟩ := ixW_ok a hp
  refine ex_ret (ev_ixL (xs := (["same", "under", "underbox", "over", "overbox"] : List Str)) (k := (ixW a : Int)) (a := m_inverse a) (EvE.row (K := K) (fr_lst (T := tStr) (xs := (["same", "under", "underbox", "over", "overbox"] : List Str)) (ea_cons ev_str (ea_cons ev_str (ea_cons ev_str (ea_cons ev_str (ea_cons ev_str ea_nil))))) (by show 5 ≤ sizeLine; decide)).lst) (ev_index (xs := c_RELATIONS) (s := a) (j := ixW a) h1 (fun m z hm hz e => h2 m hm (e ▸ hz)) (EvE.row (K := K) (cl__law_relations (T := T) () ea_nil trivial).lst) (ea_cons (ev_var rfl) ea_nil)) h3) ?_
  rfl
theorem cl__law_inverse {B : Bas} {ρ ρ1 : List SV} {as : TA} (a : Str) (h : EvA B ρ as [dat tStr a] ρ1) (hp : a ∈ c_RELATIONS) : EvE B ρ (tCl sp__law_inverse as) (dat tStr (m_inverse a)) ρ1 := ev_call (pre := fun a : Str => a ∈ c_RELATIONS) (ins := fun a => [dat tStr a]) (res := fun a => dat tStr (m_inverse a)) a h hp fr_l1
theorem fr__law_inverse (a : Str) : ∀ s ∈ [dat tStr a], Fr s := fr_l1
abbrev in__law_inverse {w : World} (K : PySem.W.Frag) {mg : Str → Option Value} (T : Tx w K mg) (a : Str) : List SV := [dat tStr a]
end
end K79
/-! text D11 -/
set_option maxHeartbeats 1000000
namespace K79
open PySem PySem.Spec PyProof.Rows L2 Sw
local macro_rules | `(tactic| walk_at "side") => `(tactic| first | omega | with_reducible assumption | with_reducible exact True.intro | (simp only [Str.length_append, l_sp, l_emp, l_rs, l_rl, l_rd, sizeLine_eq, List.length_map, List.length_cons, List.length_nil, List.length_append]; first | omega | with_reducible assumption | (have z1 := l_sg _ ‹_ ∈ c_STRONG›; omega)) | (simp only [l_all]; omega) | (rw [‹Txt.split _ _ = _›]; exact rfl) | assumption | decide)
section
variable {P : Program} {w : World} {K : PySem.W.Frag} {mg : Str → Option Value} {base : Heap}
/-! _law_live -/
abbrev s__law_live : Stmt := top 55
abbrev N__law_live : List Str := ["entries", "rows", "entry", "standing", "deed", "word", "good", "strong"]
theorem sc__law_live : FnScope N__law_live ["entries"] (defScope s__law_live) := ⟨rfl, rfl, rfl, by decide +kernel, rfl, by decide +kernel, by decide +kernel⟩
def st__law_live_1 (entries : (List Str)) (s1 : (List Str)) (entry : Str) : (List Str) := (if (if (decide ((ixD (Txt.split entry (" " : Str)) 1) ∈ m__law_strong)) = true then (if ((!decide ((ixD (Txt.split entry (" " : Str)) 0) = ("reserved" : Str))) && (decide ((("reserved lend " : Str) ++ (m_inverse (ixD (Txt.split entry (" " : Str)) 2))) ∈ entries))) = true then true else (decide ((((ixD (Txt.split entry (" " : Str)) 0) ++ (" reserve " : Str)) ++ (ixD (Txt.split entry (" " : Str)) 2)) ∈ entries))) else (if ((decide ((ixD (Txt.split entry (" " : Str)) 0) = ("reserved" : Str))) && (decide ((ixD (Txt.split entry (" " : Str)) 1) = ("reserve" : Str)))) = true then (((m__law_strong.filter (fun _ => true)).map (fun strong => (decide ((((("reserved " : Str) ++ strong) ++ (" " : Str)) ++ (ixD (Txt.split entry (" " : Str)) 2)) ∈ entries)))).any id) else true)) = true then (s1 ++ [entry]) else s1)
def m__law_live (entries : (List Str)) : (List Str) := (entries.foldl (st__law_live_1 entries) ([] : List Str))
theorem len_ll (a : List Str) : ∀ (xs : List Str) (s : List Str), (xs.foldl (st__law_live_1 a) s).length ≤ s.length + xs.length
  | [], s => Nat.le_refl _
  | x :: xs, s => by
    have h1 := len_ll a xs (st__law_live_1 a s x)
    have h2 : (st__law_live_1 a s x).length ≤ s.length + 1 := by
      unfold st__law_live_1
      repeat' split
      all_goals simp
    rw [List.foldl_cons, List.length_cons]
    omega
abbrev in__law_live {w : World} (K : PySem.W.Frag) {mg : Str → Option Value} (T : Tx w K mg) (a : (List Str)) : List SV := [(dat (tList tStr) a)]
theorem fr__law_live {w : World} {K : PySem.W.Frag} {mg : Str → Option Value} {T : Tx w K mg} (a : (List Str)) : ∀ s ∈ in__law_live K T a, Fr s := (fr_cons fr_dat fr_nil)
abbrev pre__law_live (a : (List Str)) : Prop := preR a
abbrev sp__law_live {w : World} (K : PySem.W.Frag) {mg : Str → Option Value} (T : Tx w K mg) : Sp := spF (A := (List Str)) (fun a => pre__law_live a) (fun a => in__law_live K T a) (fun a => (fre (oList tStr) (m__law_live a)))
theorem cl__law_live {T : Tx w K mg} {B : Bas} {ρ ρ1 : List SV} {as : TA} (a : (List Str)) (h : EvA B ρ as (in__law_live K T a) ρ1) (hp : pre__law_live a) : EvE B ρ (tCl (sp__law_live K T) as) (fre (oList tStr) (m__law_live a)) ρ1 := ev_call (pre := fun a => pre__law_live a) (ins := fun a => in__law_live K T a) (res := fun a => (fre (oList tStr) (m__law_live a))) a h hp (fr__law_live a)
theorem g__law_live (T : Tx w K mg) : Gn P w K mg base 3 "_law_live" (sp__law_live K T) := by
  have nd := sc__law_live.nd
  refine gn_of T.d__law_live sc__law_live (lenF fun _ => rfl) (fun _ _ _ _ _ _ us hl => match us, hl with | [_], _ => rfl) (fun f cdv A outer s H vs Q E hr h => ⟨_, (pss_cons (ps_set (i := 1) nd rfl (by first | exact Or.inl rfl | exact Or.inr rfl) (pe_lst pa_nil)) (pss_cons (ps_for PassesOwn.never rfl (pi_list (pv 0)) (pg_name (i := 2) nd rfl (by first | exact Or.inl rfl | exact Or.inr rfl)) (pss_cons (ps_asg (pe_split (pv 2) pe_str) (pg_lst rfl (pgs_cons (pg_name (i := 3) nd rfl (by first | exact Or.inl rfl | exact Or.inr rfl)) (pgs_cons (pg_name (i := 4) nd rfl (by first | exact Or.inl rfl | exact Or.inr rfl)) (pgs_cons (pg_name (i := 5) nd rfl (by first | exact Or.inl rfl | exact Or.inr rfl)) pgs_nil))))) (pss_cons (ps_set (i := 6) nd rfl (by first | exact Or.inl rfl | exact Or.inr rfl) pe_bl) (pss_cons (ps_if (pt_cmpR (op_in_K (K := K) rfl) (pv 4) (pe_cl0 (g__law_strong T) hr (by decide) rfl) (by with_unfolding_all rfl)) (pss_cons (ps_set (i := 6) nd rfl (by first | exact Or.inl rfl | exact Or.inr rfl) (pe_cmpR (op_in_K (K := K) rfl) (pe_op op_add_str (pe_op op_add_str (pv 3) pe_str) (pv 5)) (pv 0) (by with_unfolding_all rfl))) (pss_cons (ps_if (PW.pt (pw_and (pt_cmpR op_ne (pv 3) pe_str (nomark _)) (pw_and1 (pt_cmpR (op_in_K (K := K) rfl) (pe_op op_add_str pe_str (pe_cl (g__law_inverse T) hr (by decide) rfl (pa_cons (pv 5) pa_nil))) (pv 0) (by with_unfolding_all rfl))))) (pss_one (ps_set (i := 6) nd rfl (by first | exact Or.inl rfl | exact Or.inr rfl) pe_bl)) pss_nil) pss_nil)) (pss_cons (ps_if (PW.pt (pw_and (pt_cmpR op_eq (pv 3) pe_str (nomark _)) (pw_and1 (pt_cmpR op_eq (pv 4) pe_str (nomark _))))) (pss_one (ps_set (i := 6) nd rfl (by first | exact Or.inl rfl | exact Or.inr rfl) (pe_callB (cr_any rfl) (by rfl) T.n_any (by decide +kernel) (pa_cons (pe_lc (own := [("strong", 7)]) (g := gName 7) (tt := tYes) (by rfl) nd (pi_list (pe_cl0 (g__law_strong T) hr (by decide) rfl)) (blkOk_by (own := [("strong", 7)]) (N := N__law_live) (sc := defScope s__law_live) (by decide +kernel)) (fun _ _ _ _ _ => pg_name (i := 7) nd rfl (Or.inl rfl)) (fun _ _ _ _ _ => pts_nil) (fun _ _ _ _ _ => (pe_cmpR (op_in_K (K := K) rfl) (pe_op op_add_str (pe_op op_add_str (pe_op op_add_str pe_str (pv 7)) pe_str) (pv 5)) (pv 0) (by with_unfolding_all rfl)))) pa_nil)))) pss_nil) pss_nil)) (pss_cons (ps_if (pt_val (pv 6)) (pss_one (ps_expr (pe_bm PySem.F.plainAttrs_list PySem.F.slot_list_append PySem.F.type_list_append mt_append (pv 1) (pa_cons (pv 2) pa_nil)))) pss_nil) pss_nil))))) (pss_one (ps_ret (pv 1))))), body_F h fun entries B hp => ?_⟩)
  have hp : preR entries := hp
  refine ex_seq (ex_asgO (i := 1) (fr_lst (T := tStr) (xs := ([] : List Str)) ea_nil (by show 0 ≤ sizeLine; decide)) (by show _ < 8; decide) oat_list (fun p_rows hp_rows => ?_))
  refine ex_seq (ex_forLF (S := (List Str)) (fun s1 : (List Str) => [(dat (tList tStr) entries), (own (.ref p_rows) (oList tStr) s1), any, any, any, any, any, any]) (st__law_live_1 entries) ([] : List Str) (EvE.row (K := K) (ev_var rfl)) (.keep (.keep (.forget (.forget (.forget (.forget (.forget (.forget EntL.nil)))))))) (fun _ => by show _ < 8; decide) (fun pre post entry hx => ?_) ?_)
  · generalize hS : pre.foldl (st__law_live_1 entries) ([] : List Str) = s1
    have i1 : s1.length ≤ pre.length := by rw [← hS]; have := len_ll entries pre []; simpa using this
    have q1 : pre.length ≤ 500 := by have h5 := hp.1; rw [hx] at h5; simp at h5; omega
    have m1 : entry ∈ entries := by rw [hx]; simp
    obtain ⟨hsp, e0, e1, e2, hle⟩ := e_facts _ (hp.2 _ m1)
    have g0 : (ixD (Txt.split entry (" " : Str)) 0).length ≤ 10 := l_st _ e0
    have g1 : (ixD (Txt.split entry (" " : Str)) 1).length ≤ 10 := l_de _ e1
    have g2 : (ixD (Txt.split entry (" " : Str)) 2).length ≤ 10 := l_re _ e2
    have gi := l_inv (ixD (Txt.split entry (" " : Str)) 2)
    have gv := rel_inv _ e2
    refine ex_seq (ex_unp3 (i := 3) (j := 4) (k := 5) (a := (ixD (Txt.split entry (" " : Str)) 0)) (b := (ixD (Txt.split entry (" " : Str)) 1)) (c := (ixD (Txt.split entry (" " : Str)) 2)) (EvE.row (K := K) ((fr_split rfl (ev_var rfl) ev_str (by first | rfl | decide +kernel) (by walk_at "side"))).lst) (by walk_at "side") (by show _ < 8; decide) (by show _ < 8; decide) (by show _ < 8; decide) ?_)
    refine ex_seq (ex_asg (i := 6) ev_bl (by show _ < 8; decide) ?_)
    refine ex_seqJ [(dat (tList tStr) entries), (own (.ref p_rows) (oList tStr) s1), (dat tStr entry), (dat tStr (ixD (Txt.split entry (" " : Str)) 0)), (dat tStr (ixD (Txt.split entry (" " : Str)) 1)), (dat tStr (ixD (Txt.split entry (" " : Str)) 2)), (dat tBl (if (decide ((ixD (Txt.split entry (" " : Str)) 1) ∈ m__law_strong)) = true then (if ((!decide ((ixD (Txt.split entry (" " : Str)) 0) = ("reserved" : Str))) && (decide ((("reserved lend " : Str) ++ (m_inverse (ixD (Txt.split entry (" " : Str)) 2))) ∈ entries))) = true then true else (decide ((((ixD (Txt.split entry (" " : Str)) 0) ++ (" reserve " : Str)) ++ (ixD (Txt.split entry (" " : Str)) 2)) ∈ entries))) else (if ((decide ((ixD (Txt.split entry (" " : Str)) 0) = ("reserved" : Str))) && (decide ((ixD (Txt.split entry (" " : Str)) 1) = ("reserve" : Str)))) = true then (((m__law_strong.filter (fun _ => true)).map (fun strong => (decide ((((("reserved " : Str) ++ strong) ++ (" " : Str)) ++ (ixD (Txt.split entry (" " : Str)) 2)) ∈ entries)))).any id) else true))), any] (ex_if (et_test (ev_isL (ev_var rfl) (EvE.row (K := K) ((ev_call (ins := in__law_strong K T) () ea_nil trivial (fr__law_strong ()))).lst))) (fun h1001 => ?_) (fun h1001 => ?_)) ?_
    · refine ex_seq (ex_asg (i := 6) (ev_isL (ev_addS (ev_addS (ev_var rfl) ev_str (by walk_at "side")) (ev_var rfl) (by walk_at "side")) (EvE.row (K := K) (ev_var rfl))) (by show _ < 8; decide) ?_)
      refine ex_seqJ [(dat (tList tStr) entries), (own (.ref p_rows) (oList tStr) s1), (dat tStr entry), (dat tStr (ixD (Txt.split entry (" " : Str)) 0)), (dat tStr (ixD (Txt.split entry (" " : Str)) 1)), (dat tStr (ixD (Txt.split entry (" " : Str)) 2)), (dat tBl (if ((!decide ((ixD (Txt.split entry (" " : Str)) 0) = ("reserved" : Str))) && (decide ((("reserved lend " : Str) ++ (m_inverse (ixD (Txt.split entry (" " : Str)) 2))) ∈ entries))) = true then true else (decide ((((ixD (Txt.split entry (" " : Str)) 0) ++ (" reserve " : Str)) ++ (ixD (Txt.split entry (" " : Str)) 2)) ∈ entries)))), any] (ex_if (et_and (et_test (ev_neS (ev_var rfl) ev_str)) (fun _ => (et_test (ev_isL (ev_addS ev_str (ev_call (ins := in__law_inverse K T) (ixD (Txt.split entry (" " : Str)) 2) (ea_cons (ev_var rfl) ea_nil) (by walk_at "side") (fr__law_inverse (ixD (Txt.split entry (" " : Str)) 2))) (by walk_at "side")) (EvE.row (K := K) (ev_var rfl)))))) (fun h1002 => ?_) (fun h1002 => ?_)) ?_
      · refine ex_asg (i := 6) ev_bl (by show _ < 8; decide) ?_
        exact (.keep (.keep (.keep (.keep (.keep (.keep (.keepE (by rw [if_pos h1002]) (.keep EntL.nil))))))))
      · refine ex_next ?_
        exact (.keep (.keep (.keep (.keep (.keep (.keep (.keepE (by rw [if_neg (nt h1002)]) (.keep EntL.nil))))))))
      refine ex_next ?_
      exact (.keep (.keep (.keep (.keep (.keep (.keep (.keepE (by rw [if_pos h1001]) (.keep EntL.nil))))))))
    · refine ex_seqJ [(dat (tList tStr) entries), (own (.ref p_rows) (oList tStr) s1), (dat tStr entry), (dat tStr (ixD (Txt.split entry (" " : Str)) 0)), (dat tStr (ixD (Txt.split entry (" " : Str)) 1)), (dat tStr (ixD (Txt.split entry (" " : Str)) 2)), (dat tBl (if ((decide ((ixD (Txt.split entry (" " : Str)) 0) = ("reserved" : Str))) && (decide ((ixD (Txt.split entry (" " : Str)) 1) = ("reserve" : Str)))) = true then (((m__law_strong.filter (fun _ => true)).map (fun strong => (decide ((((("reserved " : Str) ++ strong) ++ (" " : Str)) ++ (ixD (Txt.split entry (" " : Str)) 2)) ∈ entries)))).any id) else true)), any] (ex_if (et_and (et_test (ev_eqS (ev_var rfl) ev_str)) (fun _ => (et_test (ev_eqS (ev_var rfl) ev_str)))) (fun h1052 => ?_) (fun h1052 => ?_)) ?_
      · refine ex_asg (i := 6) (ev_any (ea_cons (EvE.row (K := K) ((ev_lcL (U := tBl) (fun _ => true) (fun strong => (decide ((((("reserved " : Str) ++ strong) ++ (" " : Str)) ++ (ixD (Txt.split entry (" " : Str)) 2)) ∈ entries))) (EvE.row (K := K) ((ev_call (ins := in__law_strong K T) () ea_nil trivial (fr__law_strong ()))).lst) (by show _ < 8; decide) (by walk_at "side") (fun strong m_strong => et_yes) (fun strong m_strong _ => (ev_isL (ev_addS (ev_addS (ev_addS ev_str (ev_var rfl) (by walk_at "side")) ev_str (by walk_at "side")) (ev_var rfl) (by walk_at "side")) (EvE.row (K := K) (ev_var rfl)))))).lst) ea_nil)) (by show _ < 8; decide) ?_
        exact (.keep (.keep (.keep (.keep (.keep (.keep (.keepE (by rw [if_pos h1052]) (.keep EntL.nil))))))))
      · refine ex_next ?_
        exact (.keep (.keep (.keep (.keep (.keep (.keep (.keepE (by rw [if_neg (nt h1052)]) (.keep EntL.nil))))))))
      refine ex_next ?_
      exact (.keep (.keep (.keep (.keep (.keep (.keep (.keepE (by rw [if_neg (nt h1001)]) (.keep EntL.nil))))))))
    refine ex_seqJ [(dat (tList tStr) entries), (own (.ref p_rows) (oList tStr) (if (if (decide ((ixD (Txt.split entry (" " : Str)) 1) ∈ m__law_strong)) = true then (if ((!decide ((ixD (Txt.split entry (" " : Str)) 0) = ("reserved" : Str))) && (decide ((("reserved lend " : Str) ++ (m_inverse (ixD (Txt.split entry (" " : Str)) 2))) ∈ entries))) = true then true else (decide ((((ixD (Txt.split entry (" " : Str)) 0) ++ (" reserve " : Str)) ++ (ixD (Txt.split entry (" " : Str)) 2)) ∈ entries))) else (if ((decide ((ixD (Txt.split entry (" " : Str)) 0) = ("reserved" : Str))) && (decide ((ixD (Txt.split entry (" " : Str)) 1) = ("reserve" : Str)))) = true then (((m__law_strong.filter (fun _ => true)).map (fun strong => (decide ((((("reserved " : Str) ++ strong) ++ (" " : Str)) ++ (ixD (Txt.split entry (" " : Str)) 2)) ∈ entries)))).any id) else true)) = true then (s1 ++ [entry]) else s1)), (dat tStr entry), (dat tStr (ixD (Txt.split entry (" " : Str)) 0)), (dat tStr (ixD (Txt.split entry (" " : Str)) 1)), (dat tStr (ixD (Txt.split entry (" " : Str)) 2)), (dat tBl (if (decide ((ixD (Txt.split entry (" " : Str)) 1) ∈ m__law_strong)) = true then (if ((!decide ((ixD (Txt.split entry (" " : Str)) 0) = ("reserved" : Str))) && (decide ((("reserved lend " : Str) ++ (m_inverse (ixD (Txt.split entry (" " : Str)) 2))) ∈ entries))) = true then true else (decide ((((ixD (Txt.split entry (" " : Str)) 0) ++ (" reserve " : Str)) ++ (ixD (Txt.split entry (" " : Str)) 2)) ∈ entries))) else (if ((decide ((ixD (Txt.split entry (" " : Str)) 0) = ("reserved" : Str))) && (decide ((ixD (Txt.split entry (" " : Str)) 1) = ("reserve" : Str)))) = true then (((m__law_strong.filter (fun _ => true)).map (fun strong => (decide ((((("reserved " : Str) ++ strong) ++ (" " : Str)) ++ (ixD (Txt.split entry (" " : Str)) 2)) ∈ entries)))).any id) else true))), any] (ex_if (et_B (ev_var rfl)) (fun h1102 => ?_) (fun h1102 => ?_)) ?_
    · refine ex_append (i := 1) rfl (ev_var rfl) rfl (by walk_at "side") ?_
      exact (.keep (.keepE (by rw [if_pos h1102]) (.keep (.keep (.keep (.keep (.keep (.keep EntL.nil))))))))
    · refine ex_next ?_
      exact (.keep (.keepE (by rw [if_neg (nt h1102)]) (.keep (.keep (.keep (.keep (.keep (.keep EntL.nil))))))))
    refine ex_next ?_
    exact (.keep (.keepE (congrArg (fun z => (own (.ref p_rows) (oList tStr) z)) (show (if (if (decide ((ixD (Txt.split entry (" " : Str)) 1) ∈ m__law_strong)) = true then (if ((!decide ((ixD (Txt.split entry (" " : Str)) 0) = ("reserved" : Str))) && (decide ((("reserved lend " : Str) ++ (m_inverse (ixD (Txt.split entry (" " : Str)) 2))) ∈ entries))) = true then true else (decide ((((ixD (Txt.split entry (" " : Str)) 0) ++ (" reserve " : Str)) ++ (ixD (Txt.split entry (" " : Str)) 2)) ∈ entries))) else (if ((decide ((ixD (Txt.split entry (" " : Str)) 0) = ("reserved" : Str))) && (decide ((ixD (Txt.split entry (" " : Str)) 1) = ("reserve" : Str)))) = true then (((m__law_strong.filter (fun _ => true)).map (fun strong => (decide ((((("reserved " : Str) ++ strong) ++ (" " : Str)) ++ (ixD (Txt.split entry (" " : Str)) 2)) ∈ entries)))).any id) else true)) = true then (s1 ++ [entry]) else s1) = ((st__law_live_1 entries) s1 entry) from rfl)) (.forget (.forget (.forget (.forget (.forget (.forget EntL.nil))))))))
  refine ex_retO (i := 1) rfl hp_rows oat_list ?_
  exact (congrArg (fun z => (fre (oList tStr) z)) (show (entries.foldl (st__law_live_1 entries) ([] : List Str)) = m__law_live entries from rfl))
end
end K79
/-! text D12 -/
set_option maxHeartbeats 1000000
/-! D12: _law_best -/
namespace K79
open PySem PySem.Spec PyProof.Rows L2 Sw ItX
section
variable {P : Program} {w : World} {K : PySem.W.Frag} {mg : Str → Option Value} {base : Heap} (T : Tx w K mg)
abbrev N__law_best : List Str := ["entries", "words", "entry"]
theorem sc__law_best : FnScope N__law_best ["entries"] (defScope (top 61)) := ⟨rfl, rfl, rfl, by decide +kernel, rfl, by decide +kernel, by decide +kernel⟩
theorem ll_sub {a : List Str} (h : preR a) : ∀ e ∈ m__law_live a, e ∈ a := by
  have key : ∀ (xs s : List Str), (∀ e ∈ xs, e ∈ a) → (∀ e ∈ s, e ∈ a) → ∀ e ∈ xs.foldl (st__law_live_1 a) s, e ∈ a := by
    intro xs
    induction xs with
    | nil => intro s _ hs; exact hs
    | cons x xs ih =>
      intro s hx hs
      refine ih _ (fun e he => hx e (List.mem_cons_of_mem _ he)) ?_
      unfold st__law_live_1
      have h1 : ∀ e ∈ s ++ [x], e ∈ a := fun e he => by
        rcases List.mem_append.mp he with he | he
        · exact hs e he
        · rw [List.mem_singleton.mp he]; exact hx x List.mem_cons_self
      repeat' split
      all_goals first | exact hs | exact h1
  exact key a [] (fun _ h => h) (fun _ h => nomatch h)
theorem ll_R {a : List Str} (h : preR a) : preR (m__law_live a) := ⟨by
  have := len_ll a a []
  have h1 := h.1
  unfold m__law_live
  simp at this
  omega, fun e he => h.2 e (ll_sub h e he)⟩
abbrev rk (e : Str) : Int := if decide (ixD (Txt.split e (" " : Str)) 0 = ("reserved" : Str)) then 1 else 0
def st_best (ws : List Str) (e : Str) : List Str := if m__law_harmful e "kept" "kept" = true then ws.set (rk e).toNat "fresh" else ws
def m_best (a : List Str) : Option (List Str) := if (m__law_live a).any (fun e => m__law_harmful e "fresh" "fresh") = true then none else some ((m__law_live a).foldl st_best ["kept", "kept"])
theorem st_best_len (xs : List Str) : ∀ ws : List Str, ws.length = 2 → (xs.foldl st_best ws).length = 2 := by
  induction xs with
  | nil => intro ws h; exact h
  | cons x xs ih =>
    intro ws h
    refine ih _ ?_
    unfold st_best
    split
    · rw [List.length_set]; exact h
    · exact h
abbrev sp__law_best : Sp := spF (A := List Str) (fun a => preR a) (fun a => [dat (tList tStr) a]) (fun a => dat (tOpt (tList tStr)) (m_best a))
theorem rk_ix {e : Str} : ixN 2 (rk e) = some (rk e).toNat := by
  unfold rk
  split <;> rfl
theorem g__law_best (T : Tx w K mg) : Gn P w K mg base 4 "_law_best" sp__law_best := by
  have nd := sc__law_best.nd
  refine gn_of T.d__law_best sc__law_best (lenF fun _ => rfl) (fun _ _ _ _ _ _ us hl => match us, hl with | [_], _ => rfl) (fun f cdv A outer s H vs Q E hr h => ⟨_, (pss_cons (ps_set (i := 1) nd rfl (by first | exact Or.inl rfl | exact Or.inr rfl) (pe_lst (pa_cons pe_str (pa_cons pe_str pa_nil)))) (pss_cons (ps_for PassesOwn.never rfl (pi_list (pe_cl (g__law_live T) hr (by decide) rfl (pa_cons (pv 0) pa_nil))) (pg_name (i := 2) nd rfl (by first | exact Or.inl rfl | exact Or.inr rfl))
    (pss_cons (ps_if (pt_val (pe_cl (g__law_harmful T) hr (by decide) rfl (pa_cons (pv 2) (pa_cons pe_str (pa_cons pe_str pa_nil))))) (pss_one (ps_ret pe_non)) pss_nil) (pss_one (ps_if (pt_val (pe_cl (g__law_harmful T) hr (by decide) rfl (pa_cons (pv 2) (pa_cons pe_str (pa_cons pe_str pa_nil))))) (pss_one (ps_asg (pe_str) (pg_sub (pv 1) (pe_callTy call_int1 (by rfl) T.n_int (by decide +kernel) (pa_cons (pe_cmpR op_eq (pe_ix ix_list (pe_split (pv 2) pe_str) pe_int (fun _ _ => rfl)) pe_str (nomark _)) pa_nil)) set_list))) pss_nil)))) (pss_one (ps_ret (pv 1))))), body_F h fun a B hp => ?_⟩)
  refine ex_seq (ex_asgO (i := 1) (fr_lst (T := tStr) (xs := (["kept", "kept"] : List Str)) (ea_cons ev_str (ea_cons ev_str ea_nil)) (by show 2 ≤ sizeLine; decide)) (by show _ < 3; decide) oat_list (fun p hp1 => ?_))
  refine ex_seq (ex_forL (T := tStr) (xs := m__law_live a) (EvE.row (K := K) (cl__law_live (T := T) a (ea_cons (ev_var rfl) ea_nil) hp).lst) (fun i ρ => ∃ e2, ρ = [dat (tList tStr) a, own (.ref p) (oList tStr) (((m__law_live a).take i).foldl st_best ["kept", "kept"]), e2] ∧ ((m__law_live a).take i).any (fun e => m__law_harmful e "fresh" "fresh") = false)
    ⟨any, rfl, rfl⟩ (fun i ρ ⟨e2, h, _⟩ => by rw [h]; show _ < 3; decide) (fun i x ρ hx ⟨e2, h, hn⟩ => ?_) (fun ρ ⟨e2, h, hn⟩ => ?_))
  · subst h
    have hxm : x ∈ m__law_live a := List.mem_of_getElem? hx
    have hxE : x ∈ allE := (ll_R hp).2 x hxm
    have et : (m__law_live a).take (i + 1) = (m__law_live a).take i ++ [x] := by
      obtain ⟨hl', ez⟩ := List.getElem?_eq_some_iff.mp hx
      rw [List.take_succ_eq_append_getElem hl', ez]
    refine ex_seq (ex_if (et_B (cl__law_harmful (T := T) (x, "fresh", "fresh") (ea_cons (ev_var rfl) (ea_cons ev_str (ea_cons ev_str ea_nil))) hxE)) (fun h1 => ?_) (fun h1 => ?_))
    · refine ex_ret (EvE.noneO (T := tList tStr) ev_non) ?_
      exact congrArg (fun z => dat (tOpt (tList tStr)) z) (show none = m_best a from by
        unfold m_best
        rw [if_pos (List.any_eq_true.mpr ⟨x, hxm, h1⟩)])
    refine ex_next ?_
    have hn2 : ((m__law_live a).take (i + 1)).any (fun e => m__law_harmful e "fresh" "fresh") = false := by
      rw [et, List.any_append, hn]
      simp only [List.any_cons, List.any_nil, Bool.or_false, Bool.false_or]
      exact h1
    obtain ⟨hsp, e0, e1, e2', hle⟩ := e_facts x hxE
    refine ex_if (et_B (cl__law_harmful (T := T) (x, "kept", "kept") (ea_cons (ev_var rfl) (ea_cons ev_str (ea_cons ev_str ea_nil))) hxE)) (fun h2 => ?_) (fun h2 => ?_)
    · refine ex_setO (i := 1) (T := tStr) (a := ("fresh" : Str)) (xs := ((m__law_live a).take i).foldl st_best [("kept" : Str), "kept"]) (k := rk x) (n := (rk x).toNat) ev_str rfl (ev_intB (ea_cons (ev_eqS (ev_ixL (T := tStr) (a := ixD (Txt.split x (" " : Str)) 0) (EvE.row (K := K) (fr_split rfl (ev_var rfl) ev_str (by first | rfl | decide +kernel) (by rw [sizeLine_eq]; omega)).lst) ev_int (by rw [hsp]; exact rfl)) ev_str) ea_nil)) rfl (by rw [st_best_len _ _ rfl]; exact rk_ix) ?_
      refine ⟨dat tStr x, ?_, hn2⟩
      rw [et, List.foldl_append]
      show [_, own (.ref p) (oList tStr) ((((m__law_live a).take i).foldl st_best ["kept", "kept"]).set (rk x).toNat "fresh"), _] = [_, own (.ref p) (oList tStr) (st_best (((m__law_live a).take i).foldl st_best ["kept", "kept"]) x), _]
      unfold st_best
      rw [if_pos h2]
    · refine ex_next ?_
      refine ⟨dat tStr x, ?_, hn2⟩
      rw [et, List.foldl_append]
      show [_, own (.ref p) (oList tStr) ((((m__law_live a).take i).foldl st_best ["kept", "kept"])), _] = [_, own (.ref p) (oList tStr) (st_best (((m__law_live a).take i).foldl st_best ["kept", "kept"]) x), _]
      unfold st_best
      rw [if_neg (nt h2)]
  · subst h
    rw [List.take_length] at hn ⊢
    refine ex_ent (ent_frz (i := 1) rfl hp1 frz_list oat_list) ?_
    refine ex_ret (EvE.someO (ev_var (i := 1) rfl) nn_list) ?_
    exact congrArg (fun z => dat (tOpt (tList tStr)) z) (show some _ = m_best a from by
      unfold m_best
      rw [if_neg (nt hn)])
end
end K79
/-! text D13 -/
set_option maxHeartbeats 1000000
/-! D13: _law_same, _law_words_of -/
namespace K79
open PySem PySem.Spec PyProof.Rows L2 Sw ItX
section
variable {P : Program} {w : World} {K : PySem.W.Frag} {mg : Str → Option Value} {base : Heap} (T : Tx w K mg)
abbrev N__law_same : List Str := ["actual", "expected"]
theorem sc__law_same : FnScope N__law_same ["actual", "expected"] (defScope (top 47)) := ⟨rfl, rfl, rfl, by decide +kernel, rfl, by decide +kernel, by decide +kernel⟩
abbrev N__law_same_row : List Str := ["actual", "expected", "k"]
theorem sc__law_same_row : FnScope N__law_same_row ["actual", "expected"] (defScope (top 46)) := ⟨rfl, rfl, rfl, by decide +kernel, rfl, by decide +kernel, by decide +kernel⟩
theorem ev_isX {α : Type} {B : Bas} {ρ ρ1 : List SV} {te : TE} {T : Ty α} {a : α} (h : EvE B ρ te (dat T a) ρ1) (n : ∀ F x, T.rep F x a → x ≠ .non) : EvE B ρ (tOp (fun x y H Q => y = .non ∧ Q (.bl (decide (x = .non))) H) te (tC .non)) (dat tBl false) ρ1 := fun H σ τ Q st q =>
  h H σ τ _ st fun v H1 st1 => ⟨rfl, by
    obtain ⟨F, y, m, e1, hr⟩ := st1.core.d1
    cases e1
    rw [decide_eq_false (n F v hr)]
    exact q _ H1 ⟨st1.len, st1.core.cut.sc sc_bl⟩⟩
theorem nn_bl {s : Bool} : ∀ F x, tBl.rep F x s → x ≠ .non := fun F x e => by rw [show x = V.bl s from e]; exact fun z => nomatch z
abbrev spSame {α : Type} (T : Ty α) (pre : α → Prop) : Sp := spF (A := α) pre (fun a => [dat T a, dat T a]) (fun _ => dat tBl true)
theorem cl_same {α : Type} {T : Ty α} {pre : α → Prop} {B : Bas} {ρ ρ1 : List SV} {as : TA} (a : α) (h : EvA B ρ as [dat T a, dat T a] ρ1) (hp : pre a) : EvE B ρ (tCl (spSame T pre) as) (dat tBl true) ρ1 := ev_call (pre := pre) (ins := fun a => [dat T a, dat T a]) (res := fun _ => dat tBl true) a h hp fr_l2
theorem EvE.isB {B : Bas} {ρ ρ1 : List SV} {te : TE} {a b : Bool} (h : EvE B ρ te (dat tBl a) ρ1) (e : a = b) : EvE B ρ te (dat tBl b) ρ1 := e ▸ h
theorem g_same_bl (T : Tx w K mg) : Gn P w K mg base 1 "_law_same" (spSame tBl fun _ => True) := by
  have nd := sc__law_same.nd
  refine gn_of T.d__law_same sc__law_same (lenF fun _ => rfl) (fun _ _ _ _ _ _ us hl => match us, hl with | [_, _], _ => rfl) (fun f cdv A outer s H vs Q E hr h => ⟨_, (pss_cons (ps_if (pt_cmpR op_isN (pv 1) pe_non (nomark _)) (pss_one ps_never) pss_nil) (pss_cons (ps_if (pt_val (pe_callB call_isi (by rfl) T.n_isinstance (by decide +kernel) (pa_cons (pv 1) (pa_cons (pe_bltn (v := .ty "bool") (u := .type "bool") (by rfl) T.n_bool (by decide +kernel) rfl) pa_nil)))) (pss_one (ps_ret (pe_and (pe_callB call_isi (by rfl) T.n_isinstance (by decide +kernel) (pa_cons (pv 0) (pa_cons (pe_bltn (v := .ty "bool") (u := .type "bool") (by rfl) T.n_bool (by decide +kernel) rfl) pa_nil))) (pe_one (pe_cmpR op_eq (pv 0) (pv 1) (nomark _)))))) pss_nil) pss_never)), body_F h fun a B hp => ?_⟩)
  refine ex_seq (ex_if (et_test (ev_isX (ev_var rfl) nn_bl)) (fun h1 => nomatch h1) (fun h1 => ?_))
  refine ex_next ?_
  refine ex_seq (ex_if (et_B (ev_isi (bb := true) (.ty "bool") (ev_var rfl) (ty_bl (kit_ty (by decide +kernel))))) (fun h1 => ?_) (fun h1 => nomatch h1))
  refine ex_ret (EvE.isB (b := true) (ev_and (ev_isi (bb := true) (.ty "bool") (ev_var rfl) (ty_bl (kit_ty (by decide +kernel)))) (fun _ => ev_eqB (ev_var rfl) (ev_var rfl))) (by simp)) ?_
  rfl
theorem g_same_str (T : Tx w K mg) : Gn P w K mg base 1 "_law_same" (spSame tStr fun _ => True) := by
  have nd := sc__law_same.nd
  refine gn_of T.d__law_same sc__law_same (lenF fun _ => rfl) (fun _ _ _ _ _ _ us hl => match us, hl with | [_, _], _ => rfl) (fun f cdv A outer s H vs Q E hr h => ⟨_, (pss_cons (ps_if (pt_cmpR op_isN (pv 1) pe_non (nomark _)) (pss_one ps_never) pss_nil) (pss_cons (ps_if (pt_val (pe_callB call_isi (by rfl) T.n_isinstance (by decide +kernel) (pa_cons (pv 1) (pa_cons (pe_bltn (v := .ty "bool") (u := .type "bool") (by rfl) T.n_bool (by decide +kernel) rfl) pa_nil)))) (pss_one ps_never) pss_nil) (pss_cons (ps_if (pt_val (pe_callB call_isi (by rfl) T.n_isinstance (by decide +kernel) (pa_cons (pv 1) (pa_cons (pe_bltn (v := .ty "int") (u := .type "int") (by rfl) T.n_int (by decide +kernel) rfl) pa_nil)))) (pss_one ps_never) pss_nil) (pss_cons (ps_if (pt_val (pe_callB call_isi (by rfl) T.n_isinstance (by decide +kernel) (pa_cons (pv 1) (pa_cons (pe_bltn (v := .ty "str") (u := .type "str") (by rfl) T.n_str (by decide +kernel) rfl) pa_nil)))) (pss_one (ps_ret (pe_and (pe_callB call_isi (by rfl) T.n_isinstance (by decide +kernel) (pa_cons (pv 0) (pa_cons (pe_bltn (v := .ty "str") (u := .type "str") (by rfl) T.n_str (by decide +kernel) rfl) pa_nil))) (pe_one (pe_cmpR op_eq (pv 0) (pv 1) (nomark _)))))) pss_nil) pss_never)))), body_F h fun a B hp => ?_⟩)
  refine ex_seq (ex_if (et_test (ev_isX (ev_var rfl) nn_str)) (fun h1 => nomatch h1) (fun h1 => ?_))
  refine ex_next ?_
  refine ex_seq (ex_if (et_B (ev_isi (bb := false) (.ty "bool") (ev_var rfl) (ty_str (kit_ty (by decide +kernel))))) (fun h1 => nomatch h1) (fun h1 => ?_))
  refine ex_next ?_
  refine ex_seq (ex_if (et_B (ev_isi (bb := false) (.ty "int") (ev_var rfl) (ty_str (kit_ty (by decide +kernel))))) (fun h1 => nomatch h1) (fun h1 => ?_))
  refine ex_next ?_
  refine ex_seq (ex_if (et_B (ev_isi (bb := true) (.ty "str") (ev_var rfl) (ty_str (kit_ty (by decide +kernel))))) (fun h1 => ?_) (fun h1 => nomatch h1))
  refine ex_ret (EvE.isB (b := true) (ev_and (ev_isi (bb := true) (.ty "str") (ev_var rfl) (ty_str (kit_ty (by decide +kernel)))) (fun _ => ev_eqS (ev_var rfl) (ev_var rfl))) (by simp)) ?_
  rfl
theorem g_same_row {α : Type} {U : Ty α} {pre : α → Prop} {j : Nat} (T : Tx w K mg) (g : Gn P w K mg base j "_law_same" (spSame U pre)) : Gn P w K mg base (j + 1) "_law_same_row" (spSame (tList U) fun xs => xs.length ≤ 1000 ∧ ∀ x ∈ xs, pre x) := by
  have nd := sc__law_same_row.nd
  refine gn_of T.d__law_same_row sc__law_same_row (lenF fun _ => rfl) (fun _ _ _ _ _ _ us hl => match us, hl with | [_, _], _ => rfl) (fun f cdv A outer s H vs Q E hr h => ⟨_, (pss_cons (ps_if (pt_cmpR op_ne (pe_callB call_len_seq (by rfl) T.n_len PySem.boot_len (pa_cons (pv 0) pa_nil)) (pe_callB call_len_seq (by rfl) T.n_len PySem.boot_len (pa_cons (pv 1) pa_nil)) (nomark _)) (pss_one ps_never) pss_nil) (pss_cons (ps_for PassesOwn.never rfl (pi_range1 rfl T.n_range (pa_cons (pe_callB call_len_seq (by rfl) T.n_len PySem.boot_len (pa_cons (pv 1) pa_nil)) pa_nil)) (pg_name (i := 2) nd rfl (by first | exact Or.inl rfl | exact Or.inr rfl)) (pss_one (ps_if (pt_not (pt_val (pe_cl g hr (by omega) rfl (pa_cons (pe_ix ix_list (pv 0) (pv 2) (fun _ _ => rfl)) (pa_cons (pe_ix ix_list (pv 1) (pv 2) (fun _ _ => rfl)) pa_nil))))) (pss_one ps_never) pss_nil))) (pss_one (ps_ret pe_bl)))), body_F h fun xs B hp => ?_⟩)
  have L : ∀ {ρ : List SV} {i : Nat}, ρ[i]? = some (dat (tList U) xs) → EvE B ρ (tCB (rLenSq K) (tCons (tVar i) tNil)) (dat tInt (xs.length : Int)) ρ := fun h => ev_lenL (ea_cons (EvE.row (K := K) (ev_var h)) ea_nil)
  refine ex_seq (ex_if (et_test (ev_neI (L rfl) (L rfl))) (fun h1 => ?_) (fun h1 => ?_))
  · exfalso; simp at h1
  refine ex_next ?_
  have hl : ((xs.length : Int)).toNat = xs.length := Int.toNat_natCast _
  refine ex_seq (ex_forR (n := (xs.length : Int)) (ea_cons (L rfl) ea_nil) ⟨by omega, by have := hp.1; omega⟩ (fun i ρ => ∃ e, ρ = [dat (tList U) xs, dat (tList U) xs, e]) ⟨any, rfl⟩ (fun i ρ ⟨e, h⟩ => by rw [h]; show _ < 3; decide) (fun i ρ hi ⟨e, h⟩ => ?_) (fun ρ ⟨e, h⟩ => ?_))
  · subst h
    rw [hl] at hi
    have at_ : atI xs (i : Int) = some xs[i] := by
      unfold atI ixN
      rw [if_pos (by omega), if_pos (by omega)]
      simp [hi]
    refine ex_if (et_not (et_B (cl_same (T := U) (pre := pre) xs[i] (ea_cons (ev_ixL (T := U) (a := xs[i]) (EvE.row (K := K) (ev_var rfl)) (ev_var rfl) at_) (ea_cons (ev_ixL (T := U) (a := xs[i]) (EvE.row (K := K) (ev_var rfl)) (ev_var rfl) at_) ea_nil)) (hp.2 _ (List.getElem_mem hi))))) (fun h1 => nomatch h1) (fun h1 => ?_)
    refine ex_next ?_
    exact ⟨_, rfl⟩
  · subst h
    refine ex_ret ev_bl ?_
    rfl
theorem g_same_list {α : Type} {U : Ty α} {pre : α → Prop} {j : Nat} (T : Tx w K mg) (g0 : Gn P w K mg base j "_law_same" (spSame U pre)) : Gn P w K mg base (j + 2) "_law_same" (spSame (tList U) fun xs => xs.length ≤ 1000 ∧ ∀ x ∈ xs, pre x) := by
  have nd := sc__law_same.nd
  have g := g_same_row T g0
  refine gn_of T.d__law_same sc__law_same (lenF fun _ => rfl) (fun _ _ _ _ _ _ us hl => match us, hl with | [_, _], _ => rfl) (fun f cdv A outer s H vs Q E hr h => ⟨_, (pss_cons (ps_if (pt_cmpR op_isN (pv 1) pe_non (nomark _)) (pss_one ps_never) pss_nil) (pss_cons (ps_if (pt_val (pe_callB call_isi (by rfl) T.n_isinstance (by decide +kernel) (pa_cons (pv 1) (pa_cons (pe_bltn (v := .ty "bool") (u := .type "bool") (by rfl) T.n_bool (by decide +kernel) rfl) pa_nil)))) (pss_one ps_never) pss_nil) (pss_cons (ps_if (pt_val (pe_callB call_isi (by rfl) T.n_isinstance (by decide +kernel) (pa_cons (pv 1) (pa_cons (pe_bltn (v := .ty "int") (u := .type "int") (by rfl) T.n_int (by decide +kernel) rfl) pa_nil)))) (pss_one ps_never) pss_nil) (pss_cons (ps_if (pt_val (pe_callB call_isi (by rfl) T.n_isinstance (by decide +kernel) (pa_cons (pv 1) (pa_cons (pe_bltn (v := .ty "str") (u := .type "str") (by rfl) T.n_str (by decide +kernel) rfl) pa_nil)))) (pss_one ps_never) pss_nil) (pss_cons (ps_if (pt_val (pe_callB call_isi (by rfl) T.n_isinstance (by decide +kernel) (pa_cons (pv 1) (pa_cons (pe_bltn (v := .ty "list") (u := .type "list") (by rfl) T.n_list (by decide +kernel) rfl) pa_nil)))) (pss_one (ps_ret (pe_and (pe_callB call_isi (by rfl) T.n_isinstance (by decide +kernel) (pa_cons (pv 0) (pa_cons (pe_bltn (v := .ty "list") (u := .type "list") (by rfl) T.n_list (by decide +kernel) rfl) pa_nil))) (pe_one (pe_cl g hr (by omega) rfl (pa_cons (pv 0) (pa_cons (pv 1) pa_nil))))))) pss_nil) pss_never))))), body_F h fun a B hp => ?_⟩)
  refine ex_seq (ex_if (et_test (ev_isX (ev_var rfl) nn_list)) (fun h1 => nomatch h1) (fun h1 => ?_))
  refine ex_next ?_
  refine ex_seq (ex_if (et_B (ev_isi (bb := false) (.ty "bool") (ev_var rfl) (ty_lst (kit_ty (by decide +kernel))))) (fun h1 => nomatch h1) (fun h1 => ?_))
  refine ex_next ?_
  refine ex_seq (ex_if (et_B (ev_isi (bb := false) (.ty "int") (ev_var rfl) (ty_lst (kit_ty (by decide +kernel))))) (fun h1 => nomatch h1) (fun h1 => ?_))
  refine ex_next ?_
  refine ex_seq (ex_if (et_B (ev_isi (bb := false) (.ty "str") (ev_var rfl) (ty_lst (kit_ty (by decide +kernel))))) (fun h1 => nomatch h1) (fun h1 => ?_))
  refine ex_next ?_
  refine ex_seq (ex_if (et_B (ev_isi (bb := true) (.ty "list") (ev_var rfl) (ty_lst (kit_ty (by decide +kernel))))) (fun h1 => ?_) (fun h1 => nomatch h1))
  refine ex_ret (EvE.isB (b := true) (ev_and (ev_isi (bb := true) (.ty "list") (ev_var rfl) (ty_lst (kit_ty (by decide +kernel)))) (fun _ => cl_same (T := tList U) (pre := fun xs => xs.length ≤ 1000 ∧ ∀ x ∈ xs, pre x) a (ea_cons (ev_var rfl) (ea_cons (ev_var rfl) ea_nil)) hp)) (by simp)) ?_
  rfl
abbrev N__law_words_of : List Str := ["promise"]
theorem sc__law_words_of : FnScope N__law_words_of ["promise"] (defScope (top 62)) := ⟨rfl, rfl, rfl, by decide +kernel, rfl, by decide +kernel, by decide +kernel⟩
abbrev sp__law_words_of : Sp := spF (A := Str × Str) (fun _ => True) (fun a => [dat (tP T) (dP a)]) (fun a => fre (oList tStr) [a.1, a.2])
theorem g__law_words_of : Gn P w K mg base 3 "_law_words_of" (sp__law_words_of T) := by
  have nd := sc__law_words_of.nd
  refine gn_of T.d__law_words_of sc__law_words_of (lenF fun _ => rfl) (fun _ _ _ _ _ _ us hl => match us, hl with | [_], _ => rfl) (fun f cdv A outer s H vs Q E hr h => ⟨_, (pss_cons (ps_if (pt_not (pt_val (pe_callB call_isi (by rfl) T.n_isinstance (by decide +kernel) (pa_cons (pv 0) (pa_cons (pe_glob (v := .ref T.cP) (by rfl) T.g_cP rfl (by decide)) pa_nil))))) (pss_one ps_never) pss_nil) (pss_one (ps_ret (pe_lst (pa_cons (pe_pg (g_P_look T) hr (by decide) (pv 0)) (pa_cons (pe_pg (g_P_reserved T) hr (by decide) (pv 0)) pa_nil)))))), body_F h fun a B hp => ?_⟩)
  refine ex_seq (ex_if (et_not (et_B (ev_isi (.own T.cP) (ev_var rfl) (ty_ins T.isP T.k_PP)))) (fun h1 => nomatch h1) (fun h1 => ?_))
  refine ex_next ?_
  refine ex_ret (fr_lst (T := tStr) (xs := [a.1, a.2]) (ea_cons (ev_pg (pre := fun _ => True) (ins := fun a => [dat (tP T) (dP a)]) (res := fun a => dat tStr a.1) a rfl (ev_var rfl) trivial) (ea_cons (ev_pg (pre := fun _ => True) (ins := fun a => [dat (tP T) (dP a)]) (res := fun a => dat tStr a.2) a rfl (ev_var rfl) trivial) ea_nil)) (by show 2 ≤ sizeLine; decide)) ?_
  rfl
theorem cl__law_words_of {B : Bas} {ρ ρ1 : List SV} {as : TA} (a : Str × Str) (h : EvA B ρ as [dat (tP T) (dP a)] ρ1) : EvE B ρ (tCl (sp__law_words_of T) as) (fre (oList tStr) [a.1, a.2]) ρ1 := ev_call (pre := fun _ => True) (ins := fun a => [dat (tP T) (dP a)]) (res := fun a => fre (oList tStr) [a.1, a.2]) a h trivial fr_l1
end
end K79
/-! text D14 -/
/-! D14: patterns that can be read. -/
namespace K79
open PySem PySem.Spec PyProof.Rows L2 Sw
open TL (tl tl_append join_eq split_join)
def okPb (p : Str) (ws : List Str) : Bool := decide (p.length ≤ 1000) && (decide ((Txt.split p ",").length ≤ 1000) && (m_words_of p ws).isSome)
def preXb (p : Str) : Bool := decide (p.length ≤ 1000) && match Txt.split p " " with
  | [a, b, c] => okPb a c_STANDINGS && (okPb b c_DEEDS && okPb c c_RELATIONS)
  | _ => false
theorem okP_of {p : Str} {ws : List Str} (h : okPb p ws = true) : okP p ws := by
  unfold okPb at h
  simp only [Bool.and_eq_true, decide_eq_true_eq] at h
  exact h
theorem preX_of {p : Str} (h : preXb p = true) : preX p := by
  unfold preXb at h
  rw [Bool.and_eq_true] at h
  refine ⟨of_decide_eq_true h.1, ?_⟩
  have h2 := h.2
  split at h2
  · rename_i a b c e
    rw [Bool.and_eq_true, Bool.and_eq_true] at h2
    exact ⟨a, b, c, e, okP_of h2.1, okP_of h2.2.1, okP_of h2.2.2⟩
  · cases h2
def subsets {α : Type} : List α → List (List α)
  | [] => [[]]
  | x :: l => subsets l ++ (subsets l).map (x :: ·)
theorem filter_subsets {α : Type} (f : α → Bool) : ∀ l : List α, l.filter f ∈ subsets l
  | [] => by simp [subsets]
  | x :: l => by
    rw [List.filter_cons]
    unfold subsets
    split
    · exact List.mem_append_right _ (List.mem_map.mpr ⟨_, filter_subsets f l, rfl⟩)
    · exact List.mem_append_left _ (filter_subsets f l)
abbrev lineOf (s d : Str) (ws : List Str) : Str := s ++ (" " : Str) ++ d ++ (" " : Str) ++ Txt.join "," ws
theorem join3 (s d p : Str) : Txt.join (" " : Str) [s, d, p] = s ++ (" " : Str) ++ d ++ (" " : Str) ++ p := by
  rw [join_eq]
  show s ++ (" " : Str) ++ (d ++ (" " : Str) ++ p) = _
  simp only [Str.append_assoc]
theorem split3 {s d p : Str} (h1 : 32 ∉ tl s) (h2 : 32 ∉ tl d) (h3 : 32 ∉ tl p) : Txt.split (s ++ (" " : Str) ++ d ++ (" " : Str) ++ p) " " = [s, d, p] := by
  rw [← join3]
  exact split_join (s := 32) (S := []) (by decide +kernel) (by decide +kernel) (by simp) (fun q hq => by
    rcases List.mem_cons.mp hq with rfl | hq
    · exact h1
    · rcases List.mem_cons.mp hq with rfl | hq
      · exact h2
      · rw [List.mem_singleton.mp hq]; exact h3)
theorem w_st : ∀ s ∈ c_STANDINGS, 32 ∉ tl s ∧ okPb s c_STANDINGS = true ∧ m_words_of s c_STANDINGS = some [s] ∧ s.length ≤ 10 ∧ 10 ∉ tl s := by decide +kernel
theorem w_de : ∀ s ∈ c_DEEDS, 32 ∉ tl s ∧ okPb s c_DEEDS = true ∧ m_words_of s c_DEEDS = some [s] ∧ s.length ≤ 10 ∧ 10 ∉ tl s := by decide +kernel
theorem w_re : ∀ ws ∈ subsets c_RELATIONS, ws = [] ∨ (32 ∉ tl (Txt.join "," ws) ∧ okPb (Txt.join "," ws) c_RELATIONS = true ∧ m_words_of (Txt.join "," ws) c_RELATIONS = some ws ∧ (Txt.join "," ws).length ≤ 50 ∧ 10 ∉ tl (Txt.join "," ws)) := by decide +kernel
theorem line_x {s d : Str} {ws : List Str} (hs : s ∈ c_STANDINGS) (hd : d ∈ c_DEEDS) (hw : ws ∈ subsets c_RELATIONS) (hn : ws ≠ []) :
    preX (lineOf s d ws) ∧ m_expand (lineOf s d ws) = m_written [s] [d] ws ∧ (lineOf s d ws).length ≤ 80 ∧ 10 ∉ tl (lineOf s d ws) := by
  obtain ⟨a1, a2, a3, a4, a5⟩ := w_st s hs
  obtain ⟨b1, b2, b3, b4, b5⟩ := w_de d hd
  obtain ⟨c1, c2, c3, c4, c5⟩ := (w_re ws hw).resolve_left hn
  have e := split3 a1 b1 c1
  have hl : (lineOf s d ws).length ≤ 80 := by
    simp only [Str.length_append, l_sp]
    omega
  refine ⟨⟨Nat.le_trans hl (by decide), _, _, _, e, okP_of a2, okP_of b2, okP_of c2⟩, ?_, hl, ?_⟩
  · unfold m_expand
    rw [e]
    rw [ix0, ix1, ix2, a3, b3, c3]
    simp
  · intro h
    simp only [tl_append] at h
    have sp : 10 ∉ tl (" " : Str) := by decide +kernel
    simp [a5, b5, c5, sp] at h
theorem ent_x {e : Str} (he : e ∈ allE) : preX e ∧ m_expand e = [e] := by
  obtain ⟨hsp, h0, h1, h2, hl⟩ := e_facts e he
  obtain ⟨a1, a2, a3, a4, a5⟩ := w_st _ h0
  obtain ⟨b1, b2, b3, b4, b5⟩ := w_de _ h1
  have c : okP (w2 e) c_RELATIONS ∧ m_words_of (w2 e) c_RELATIONS = some [w2 e] ∧ 32 ∉ tl (w2 e) := by
    have key : ∀ r ∈ c_RELATIONS, okPb r c_RELATIONS = true ∧ m_words_of r c_RELATIONS = some [r] ∧ 32 ∉ tl r := by decide +kernel
    obtain ⟨k1, k2, k3⟩ := key _ h2
    exact ⟨okP_of k1, k2, k3⟩
  have en : ent (w0 e) (w1 e) (w2 e) = e := by
    have key : ∀ e ∈ allE, ent (w0 e) (w1 e) (w2 e) = e := by decide +kernel
    exact key e he
  refine ⟨⟨Nat.le_trans hl (by decide), _, _, _, hsp, okP_of a2, okP_of b2, c.1⟩, ?_⟩
  unfold m_expand
  rw [hsp, ix0, ix1, ix2, a3, b3, c.2.1]
  show m_written [w0 e] [w1 e] [w2 e] = [e]
  show [ent (w0 e) (w1 e) (w2 e)] = [e]
  rw [en]
end K79
/-! text D15 -/
set_option maxHeartbeats 1000000
namespace K79
open PySem PySem.Spec PyProof.Rows L2 Sw
local macro_rules | `(tactic| walk_at "side") => `(tactic| first | omega | with_reducible assumption | with_reducible exact True.intro | (simp only [Str.length_append, l_sp, l_emp, l_rs, l_rl, l_rd, sizeLine_eq, List.length_map, List.length_cons, List.length_nil, List.length_append]; first | omega | with_reducible assumption | (have z1 := l_sg _ ‹_ ∈ c_STRONG›; omega)) | (simp only [l_all]; omega) | (rw [‹Txt.split _ _ = _›]; exact rfl) | assumption | decide)
section
variable {P : Program} {w : World} {K : PySem.W.Frag} {mg : Str → Option Value} {base : Heap}
/-! _law_weaker -/
abbrev s__law_weaker : Stmt := top 63
abbrev N__law_weaker : List Str := ["words", "others", "k"]
theorem sc__law_weaker : FnScope N__law_weaker ["words", "others"] (defScope s__law_weaker) := ⟨rfl, rfl, rfl, by decide +kernel, rfl, by decide +kernel, by decide +kernel⟩
def m__law_weaker (words : (List Str)) (others : (List Str)) : Bool := ((((List.range ((2 : Int)).toNat).filter (fun _ => true)).map (fun (k : Nat) => ((decide ((ixD words (k : Int)) = ("fresh" : Str))) || (decide ((ixD others (k : Int)) = ("kept" : Str)))))).all id)
abbrev in__law_weaker {w : World} (K : PySem.W.Frag) {mg : Str → Option Value} (T : Tx w K mg) (a : (List Str) × (List Str)) : List SV := [(dat (tList tStr) a.1), (dat (tList tStr) a.2)]
theorem fr__law_weaker {w : World} {K : PySem.W.Frag} {mg : Str → Option Value} {T : Tx w K mg} (a : (List Str) × (List Str)) : ∀ s ∈ in__law_weaker K T a, Fr s := (fr_cons fr_dat (fr_cons fr_dat fr_nil))
abbrev pre__law_weaker (a : (List Str) × (List Str)) : Prop := a.1.length = 2 ∧ a.2.length = 2
abbrev sp__law_weaker {w : World} (K : PySem.W.Frag) {mg : Str → Option Value} (T : Tx w K mg) : Sp := spF (A := (List Str) × (List Str)) (fun a => pre__law_weaker a) (fun a => in__law_weaker K T a) (fun a => (dat tBl (m__law_weaker a.1 a.2)))
theorem cl__law_weaker {T : Tx w K mg} {B : Bas} {ρ ρ1 : List SV} {as : TA} (a : (List Str) × (List Str)) (h : EvA B ρ as (in__law_weaker K T a) ρ1) (hp : pre__law_weaker a) : EvE B ρ (tCl (sp__law_weaker K T) as) (dat tBl (m__law_weaker a.1 a.2)) ρ1 := ev_call (pre := fun a => pre__law_weaker a) (ins := fun a => in__law_weaker K T a) (res := fun a => (dat tBl (m__law_weaker a.1 a.2))) a h hp (fr__law_weaker a)
theorem g__law_weaker (T : Tx w K mg) : Gn P w K mg base 1 "_law_weaker" (sp__law_weaker K T) := by
  have nd := sc__law_weaker.nd
  refine gn_of T.d__law_weaker sc__law_weaker (lenF fun _ => rfl) (fun _ _ _ _ _ _ us hl => match us, hl with | [_, _], _ => rfl) (fun f cdv A outer s H vs Q E hr h => ⟨_, (pss_one (ps_ret (pe_callB (cr_all rfl) (by rfl) T.n_all (by decide +kernel) (pa_cons (pe_lc (own := [("k", 2)]) (g := gName 2) (tt := tYes) (by rfl) nd (pi_range1 rfl T.n_range (pa_cons pe_int pa_nil)) (blkOk_by (own := [("k", 2)]) (N := N__law_weaker) (sc := defScope s__law_weaker) (by decide +kernel)) (fun _ _ _ _ _ => pg_name (i := 2) nd rfl (Or.inl rfl)) (fun _ _ _ _ _ => pts_nil) (fun _ _ _ _ _ => (pe_or (pe_cmpR op_eq (pe_ix (ix_list_K (K := K) rfl) (pv 0) (pv 2) (fun _ _ => rfl)) pe_str (nomark _)) (pe_one (pe_cmpR op_eq (pe_ix (ix_list_K (K := K) rfl) (pv 1) (pv 2) (fun _ _ => rfl)) pe_str (nomark _)))))) pa_nil)))), body_F h fun a B hp => ?_⟩)
  obtain ⟨words, others⟩ := a
  have hp : words.length = 2 ∧ others.length = 2 := hp
  refine ex_ret (ev_all (ea_cons (EvE.row (K := K) ((ev_lcR (U := tBl) (fun _ => true) (fun k => ((decide ((ixD words (k : Int)) = ("fresh" : Str))) || (decide ((ixD others (k : Int)) = ("kept" : Str))))) (ea_cons ev_int ea_nil) (by show _ < 3; decide) (by first | exact atI_some (by omega) (by have h9 := m_k; simp at h9; omega) | walk_at "side") (fun k m_k => et_yes) (fun k m_k _ => (ev_or (ev_eqS (ev_ixL (a := (ixD words (k : Int))) (EvE.row (K := K) (ev_var rfl)) (ev_var rfl) (by first | exact atI_some (by omega) (by have h9 := m_k; simp at h9; omega) | walk_at "side")) ev_str) (fun _ => (ev_eqS (ev_ixL (a := (ixD others (k : Int))) (EvE.row (K := K) (ev_var rfl)) (ev_var rfl) (by first | exact atI_some (by omega) (by have h9 := m_k; simp at h9; omega) | walk_at "side")) ev_str)))))).lst) ea_nil)) ?_
  exact (congrArg (fun z => (dat tBl z)) (show ((((List.range ((2 : Int)).toNat).filter (fun _ => true)).map (fun (k : Nat) => ((decide ((ixD words (k : Int)) = ("fresh" : Str))) || (decide ((ixD others (k : Int)) = ("kept" : Str)))))).all id) = m__law_weaker words others from rfl))
end
end K79
/-! text D16 -/
set_option maxHeartbeats 1000000
namespace K79
open PySem PySem.Spec PyProof.Rows L2 Sw
local macro_rules | `(tactic| walk_at "side") => `(tactic| first | omega | with_reducible assumption | with_reducible exact True.intro | (simp only [Str.length_append, l_sp, l_emp, l_rs, l_rl, l_rd, sizeLine_eq, List.length_map, List.length_cons, List.length_nil, List.length_append]; first | omega | with_reducible assumption | (have z1 := l_sg _ ‹_ ∈ c_STRONG›; omega)) | (simp only [l_all]; omega) | (rw [‹Txt.split _ _ = _›]; exact rfl) | assumption | decide)
section
variable {P : Program} {w : World} {K : PySem.W.Frag} {mg : Str → Option Value} {base : Heap}
/-! _law_rule -/
abbrev s__law_rule : Stmt := top 59
abbrev N__law_rule : List Str := ["entries", "rule", "others", "entry", "lines", "standing", "deed", "words", "word"]
theorem sc__law_rule : FnScope N__law_rule ["entries"] (defScope s__law_rule) := ⟨rfl, rfl, rfl, by decide +kernel, rfl, by decide +kernel, by decide +kernel⟩
def st__law_rule_5 (entries : (List Str)) (standing : Str) (s5 : (List Str)) (deed : Str) : (List Str) := (if (!(((m__law_relations.filter (fun word => (decide (((((standing ++ (" " : Str)) ++ deed) ++ (" " : Str)) ++ word) ∈ entries)))).map (fun word => word))).isEmpty) = true then (s5 ++ [((((standing ++ (" " : Str)) ++ deed) ++ (" " : Str)) ++ (Txt.join ("," : Str) ((m__law_relations.filter (fun word => (decide (((((standing ++ (" " : Str)) ++ deed) ++ (" " : Str)) ++ word) ∈ entries)))).map (fun word => word))))]) else s5)
def st__law_rule_4 (entries : (List Str)) (s4 : (List Str)) (standing : Str) : (List Str) := (m__law_deeds.foldl (st__law_rule_5 entries standing) s4)
def st__law_rule_3 (entries : (List Str)) (standing : Str) (s3 : (List Str)) (deed : Str) : (List Str) := (if (!(((m__law_relations.filter (fun word => (decide (((((standing ++ (" " : Str)) ++ deed) ++ (" " : Str)) ++ word) ∈ entries)))).map (fun word => word))).isEmpty) = true then (s3 ++ [((((standing ++ (" " : Str)) ++ deed) ++ (" " : Str)) ++ (Txt.join ("," : Str) ((m__law_relations.filter (fun word => (decide (((((standing ++ (" " : Str)) ++ deed) ++ (" " : Str)) ++ word) ∈ entries)))).map (fun word => word))))]) else s3)
def st__law_rule_2 (entries : (List Str)) (s2 : (List Str)) (standing : Str) : (List Str) := (m__law_deeds.foldl (st__law_rule_3 entries standing) s2)
def st__law_rule_1 (s1 : (List Str)) (entry : Str) : (List Str) := (m_entries_without s1 (m_expand entry))
def m__law_rule (entries : (List Str)) : (List Str) := (if (decide ((((m__law_entries.filter (fun entry => (!decide (entry ∈ entries)))).map (fun entry => entry)).length : Int) < 20)) = true then (((m__law_entries.filter (fun entry => (!decide (entry ∈ entries)))).map (fun entry => entry)).foldl st__law_rule_1 (m_gathered_entries ["* * *"])) else (m_read (Txt.join ("\n" : Str) (m__law_standings.foldl (st__law_rule_2 entries) ([] : List Str)))))
theorem rl1_R (xs : List Str) : ∀ s : List Str, preR s → preR (xs.foldl st__law_rule_1 s) := by
  induction xs with
  | nil => intro s h; exact h
  | cons x xs ih => intro s h; exact ih _ (ew_sub h)
theorem rl3_len (a : List Str) (b : Str) : ∀ (xs s : List Str), (xs.foldl (st__law_rule_3 a b) s).length ≤ s.length + xs.length
  | [], s => Nat.le_refl _
  | x :: xs, s => by
    have h1 := rl3_len a b xs (st__law_rule_3 a b s x)
    have h2 : (st__law_rule_3 a b s x).length ≤ s.length + 1 := by unfold st__law_rule_3; split <;> simp
    rw [List.foldl_cons, List.length_cons]
    omega
theorem rl2_len (a : List Str) : ∀ (xs s : List Str), (xs.foldl (st__law_rule_2 a) s).length ≤ s.length + 7 * xs.length
  | [], s => by simp
  | x :: xs, s => by
    have h1 := rl2_len a xs (st__law_rule_2 a s x)
    have h2 : (st__law_rule_2 a s x).length ≤ s.length + 7 := rl3_len a x m__law_deeds s
    rw [List.foldl_cons, List.length_cons]
    omega
theorem relsub (f : Str → Bool) : (m__law_relations.filter f).map (fun w => w) ∈ subsets c_RELATIONS := by
  rw [List.map_id']; exact filter_subsets f _
theorem js1 {ws : List Str} (h : ws ∈ subsets c_RELATIONS) : (ws.map (·.length)).sum + ws.length * ("," : Str).length ≤ 16777216 := by
  have key : ∀ ws ∈ subsets c_RELATIONS, (ws.map (·.length)).sum + ws.length * ("," : Str).length ≤ 100 := by decide +kernel
  exact Nat.le_trans (key ws h) (by decide)
theorem js2 {ws : List Str} (h : ws ∈ subsets c_RELATIONS) : (Txt.join "," ws).length ≤ 50 := by
  have key : ∀ ws ∈ subsets c_RELATIONS, (Txt.join "," ws).length ≤ 50 := by decide +kernel
  exact key ws h
theorem js3 {ws : List Str} (h : ws ∈ subsets c_RELATIONS) : ∀ x ∈ ws, PyData.canLay0 (.str x) = true := by
  have key : ∀ ws ∈ subsets c_RELATIONS, ∀ x ∈ ws, PyData.canLay0 (.str x) = true := by decide +kernel
  exact key ws h
def LOk (l : List Str) : Prop := ∀ x ∈ l, ∃ s ∈ c_STANDINGS, ∃ d ∈ c_DEEDS, ∃ ws ∈ subsets c_RELATIONS, ws ≠ [] ∧ x = lineOf s d ws
theorem rl3_ok (a : List Str) (b : Str) (hb : b ∈ c_STANDINGS) : ∀ (xs s : List Str), (∀ x ∈ xs, x ∈ c_DEEDS) → LOk s → LOk (xs.foldl (st__law_rule_3 a b) s)
  | [], s, _, h => h
  | x :: xs, s, hx, h => by
    refine rl3_ok a b hb xs _ (fun y hy => hx y (List.mem_cons_of_mem _ hy)) ?_
    unfold st__law_rule_3
    split
    · rename_i hn
      intro y hy
      rcases List.mem_append.mp hy with hy | hy
      · exact h y hy
      · rw [List.mem_singleton.mp hy]
        exact ⟨b, hb, x, hx x List.mem_cons_self, _, relsub _, (fun e => by rw [e] at hn; simp at hn), rfl⟩
    · exact h
theorem rl2_ok (a : List Str) : ∀ (xs s : List Str), (∀ x ∈ xs, x ∈ c_STANDINGS) → LOk s → LOk (xs.foldl (st__law_rule_2 a) s)
  | [], s, _, h => h
  | x :: xs, s, hx, h => rl2_ok a xs _ (fun y hy => hx y (List.mem_cons_of_mem _ hy)) (rl3_ok a x (hx x List.mem_cons_self) m__law_deeds s (fun _ h => h) h)
abbrev rlL (a : List Str) : List Str := m__law_standings.foldl (st__law_rule_2 a) ([] : List Str)
theorem rlL_ok (a : List Str) : LOk (rlL a) := rl2_ok a _ _ (fun _ h => h) (fun _ h => nomatch h)
theorem rlL_len (a : List Str) : (rlL a).length ≤ 21 := rl2_len a m__law_standings []
theorem rl_l80 {l : List Str} (h : LOk l) : ∀ x ∈ l, preX x ∧ x.length ≤ 80 ∧ 10 ∉ TL.tl x := fun x hx => by
  obtain ⟨s, hs, d, hd, ws, hw, hn, e⟩ := h x hx
  rw [e]
  obtain ⟨h1, _, h3, h4⟩ := line_x hs hd hw hn
  exact ⟨h1, h3, h4⟩
theorem sum80 : ∀ {l : List Str}, (∀ x ∈ l, x.length ≤ 80) → (l.map (·.length)).sum ≤ 80 * l.length
  | [], _ => by simp
  | x :: l, h => by
    have h1 := h x List.mem_cons_self
    have h2 := sum80 (l := l) fun y hy => h y (List.mem_cons_of_mem _ hy)
    rw [List.map_cons, List.sum_cons, List.length_cons]
    omega
theorem l_nl : ("\n" : Str).length = 1 := by decide +kernel
theorem rl_sum (a : List Str) : ((rlL a).map (·.length)).sum + (rlL a).length * ("\n" : Str).length ≤ 16777216 := by
  have h1 := sum80 fun x hx => (rl_l80 (rlL_ok a) x hx).2.1
  have h2 := rlL_len a
  rw [l_nl]
  omega
theorem join_len (y : Str) : ∀ l : List Str, (Str.join y l).length ≤ (l.map (·.length)).sum + l.length * y.length
  | [] => by show Str.empty.length ≤ _; rw [l_emp]; exact Nat.zero_le _
  | [x] => by show x.length ≤ _; simp
  | x :: z :: l => by
    have h1 := join_len y (z :: l)
    show (x ++ y ++ Str.join y (z :: l)).length ≤ _
    simp only [Str.length_append, List.map_cons, List.sum_cons, List.length_cons, Nat.add_mul] at h1 ⊢
    omega
theorem rl_read (a : List Str) : (Txt.join ("\n" : Str) (rlL a)).length ≤ 100000 ∧ (Txt.join ("\n" : Str) (rlL a) ≠ "" → ∀ l ∈ Txt.split (Txt.join ("\n" : Str) (rlL a)) "\n", preX l) := by
  have h0 := rl_l80 (rlL_ok a)
  refine ⟨?_, fun hn => ?_⟩
  · rw [TL.join_eq]
    have h1 := join_len "\n" (rlL a)
    have h2 := sum80 fun x hx => (h0 x hx).2.1
    have h3 := rlL_len a
    rw [l_nl] at h1
    omega
  · rw [TL.split_join (s := 10) (S := []) (by decide +kernel) (by decide +kernel) (fun e => hn (by rw [e]; decide +kernel)) (fun p hp => (h0 p hp).2.2)]
    exact fun l hl => (h0 l hl).1
abbrev in__law_rule {w : World} (K : PySem.W.Frag) {mg : Str → Option Value} (T : Tx w K mg) (a : (List Str)) : List SV := [(dat (tList tStr) a)]
theorem fr__law_rule {w : World} {K : PySem.W.Frag} {mg : Str → Option Value} {T : Tx w K mg} (a : (List Str)) : ∀ s ∈ in__law_rule K T a, Fr s := (fr_cons fr_dat fr_nil)
abbrev pre__law_rule (a : (List Str)) : Prop := preR a
abbrev sp__law_rule {w : World} (K : PySem.W.Frag) {mg : Str → Option Value} (T : Tx w K mg) : Sp := spF (A := (List Str)) (fun a => pre__law_rule a) (fun a => in__law_rule K T a) (fun a => (fre (oIns T.cR) (dR (m__law_rule a))))
theorem cl__law_rule {T : Tx w K mg} {B : Bas} {ρ ρ1 : List SV} {as : TA} (a : (List Str)) (h : EvA B ρ as (in__law_rule K T a) ρ1) (hp : pre__law_rule a) : EvE B ρ (tCl (sp__law_rule K T) as) (fre (oIns T.cR) (dR (m__law_rule a))) ρ1 := ev_call (pre := fun a => pre__law_rule a) (ins := fun a => in__law_rule K T a) (res := fun a => (fre (oIns T.cR) (dR (m__law_rule a)))) a h hp (fr__law_rule a)
theorem g__law_rule (T : Tx w K mg) : Gn P w K mg base 9 "_law_rule" (sp__law_rule K T) := by
  have nd := sc__law_rule.nd
  refine gn_of T.d__law_rule sc__law_rule (lenF fun _ => rfl) (fun _ _ _ _ _ _ us hl => match us, hl with | [_], _ => rfl) (fun f cdv A outer s H vs Q E hr h => ⟨_, (pss_cons (ps_set (i := 1) nd rfl (by first | exact Or.inl rfl | exact Or.inr rfl) (pe_st (g_R_full T) hr (by decide) (pe_glob (v := .ref T.cR) (by rfl) T.g_cR rfl (by decide)))) (pss_cons (ps_setLc (i := 2) (own := [("entry", 3)]) (g := gName 3) (by rfl) nd rfl rfl (sw_true rfl rfl rfl (by decide +kernel)) (pi_list (pe_cl0 (g__law_entries T) hr (by decide) rfl)) (blkOk_by (own := [("entry", 3)]) (N := N__law_rule) (sc := defScope s__law_rule) (by decide +kernel)) (fun _ _ _ _ _ => pg_name (i := 3) nd rfl (Or.inl rfl)) (fun _ _ _ _ _ => (pts_one (pt_cmpR (op_notIn_K (K := K) rfl) (pv 3) (pv 0) (by with_unfolding_all rfl)))) (fun _ _ _ _ _ => (pv 3))) (pss_cons (ps_if (pt_cmpR op_lt (pe_callB call_len_seq (by rfl) T.n_len PySem.boot_len (pa_cons (pv 2) pa_nil)) pe_int (nomark _)) (pss_cons (ps_for PassesOwn.never rfl (pi_list (pv 2)) (pg_name (i := 3) nd rfl (by first | exact Or.inl rfl | exact Or.inr rfl)) (pss_one (ps_asg pe_bl (pg_sub (pv 1) (pv 3) (on_set (g_R_set T) T.nsR hr (by decide)))))) (pss_one (ps_ret (pv 1)))) pss_nil) (pss_cons (ps_set (i := 4) nd rfl (by first | exact Or.inl rfl | exact Or.inr rfl) (pe_lst pa_nil)) (pss_cons (ps_for PassesOwn.never rfl (pi_list (pe_cl0 (g__law_standings T) hr (by decide) rfl)) (pg_name (i := 5) nd rfl (by first | exact Or.inl rfl | exact Or.inr rfl)) (pss_one (ps_for PassesOwn.never rfl (pi_list (pe_cl0 (g__law_deeds T) hr (by decide) rfl)) (pg_name (i := 6) nd rfl (by first | exact Or.inl rfl | exact Or.inr rfl)) (pss_cons (ps_setLc (i := 7) (own := [("word", 8)]) (g := gName 8) (by rfl) nd rfl rfl (sw_true rfl rfl rfl (by decide +kernel)) (pi_list (pe_cl0 (g__law_relations T) hr (by decide) rfl)) (blkOk_by (own := [("word", 8)]) (N := N__law_rule) (sc := defScope s__law_rule) (by decide +kernel)) (fun _ _ _ _ _ => pg_name (i := 8) nd rfl (Or.inl rfl)) (fun _ _ _ _ _ => (pts_one (pt_cmpR (op_in_K (K := K) rfl) (pe_op op_add_str (pe_op op_add_str (pe_op op_add_str (pe_op op_add_str (pv 5) pe_str) (pv 6)) pe_str) (pv 8)) (pv 0) (by with_unfolding_all rfl)))) (fun _ _ _ _ _ => (pv 8))) (pss_cons (ps_if (pt_cmpR (op_neD (hu64 hr)) (pv 7) (pe_lst pa_nil) (nomark _)) (pss_one (ps_expr (pe_bm PySem.F.plainAttrs_list PySem.F.slot_list_append PySem.F.type_list_append mt_append (pv 4) (pa_cons (pe_op op_add_str (pe_op op_add_str (pe_op op_add_str (pe_op op_add_str (pv 5) pe_str) (pv 6)) pe_str) (pe_join pe_str (pv 7))) pa_nil)))) pss_nil) pss_nil))))) (pss_one (ps_ret (pe_cln (g_R_read T) hr (by decide) (pe_glob (v := .ref T.cR) (by rfl) T.g_cR rfl (by decide)) (pa_cons (pe_join pe_str (pv 4)) pa_nil))))))))), body_F h fun entries B hp => ?_⟩)
  have hp : preR entries := hp
  refine ex_seq (ex_asgO (i := 1) (ev_call (pre := fun _ : Unit => True) (ins := fun _ => []) (res := fun _ => fre (oIns T.cR) (dR (m_gathered_entries ["* * *"]))) () ea_nil trivial fr_l0) (by show _ < 9; decide) oat_ins (fun p_rule hp_rule => ?_))
  refine ex_seq (ex_asg (i := 2) ((ev_lcL (U := tStr) (fun entry => (!decide (entry ∈ entries))) (fun entry => entry) (EvE.row (K := K) ((ev_call (ins := in__law_entries K T) () ea_nil trivial (fr__law_entries ()))).lst) (by show _ < 9; decide) (by first | exact ⟨i1, (ent_x m1).1⟩ | exact js1 (relsub _) | exact js3 (relsub _) | exact rl_read entries | exact rl_sum entries | (rw [all_entries_eq, allE_len]; decide) | (refine Nat.le_trans (Nat.add_le_add_left (js2 (relsub _)) _) ?_; simp only [Str.length_append, l_sp, sizeLine_eq]; omega) | (have z9 := l_re _ m_word; simp only [Str.length_append, l_sp, sizeLine_eq]; omega) | walk_at "side") (fun entry m_entry => (et_test (ev_niL (ev_var rfl) (EvE.row (K := K) (ev_var rfl))))) (fun entry m_entry _ => (ev_var rfl)))).lst (by show _ < 9; decide) ?_)
  refine ex_seq (ex_if (et_test (ev_cmpI (ev_lenL (ea_cons (EvE.row (K := K) (ev_var rfl)) ea_nil)) ev_int)) (fun h1 => ?_) (fun h1 => ?_))
  · refine ex_seq (ex_forLF (S := (List Str)) (fun s1 : (List Str) => [(dat (tList tStr) entries), (own (.ref p_rule) (oIns T.cR) (dR s1)), (dat (tList tStr) ((m__law_entries.filter (fun entry => (!decide (entry ∈ entries)))).map (fun entry => entry))), any, any, any, any, any, any]) st__law_rule_1 (m_gathered_entries ["* * *"]) (EvE.row (K := K) (ev_var rfl)) (.keep (.keep (.keep (.forget (.forget (.forget (.forget (.forget (.forget EntL.nil))))))))) (fun _ => by show _ < 9; decide) (fun pre post entry hx => ?_) ?_)
    · generalize hS : pre.foldl st__law_rule_1 (m_gathered_entries ["* * *"]) = s1
      have i1 : preR s1 := by rw [← hS]; exact rl1_R _ _ (gath_R _)
      have m1 : entry ∈ allE := by have h9 : entry ∈ (m__law_entries.filter (fun entry => (!decide (entry ∈ entries)))).map (fun entry => entry) := by rw [hx]; simp
                                   rw [List.map_id', all_entries_eq] at h9; exact (List.mem_filter.mp h9).1
      refine ex_setI (i := 1) (pre := fun a : List Str × Str => preR a.1 ∧ preX a.2) (s0 := fun a => dR a.1) (ins := fun a => [dat tStr a.2, dat tBl false]) (s1 := fun a => dR (m_entries_without a.1 (m_expand a.2))) (res := fun _ => dat tNon ()) (T := tBl) (U := tStr) (a := false) (b := entry) (s1, entry) rfl ev_bl (ev_var rfl) rfl rfl (by first | exact ⟨i1, (ent_x m1).1⟩ | exact js1 (relsub _) | exact js3 (relsub _) | exact rl_read entries | exact rl_sum entries | (rw [all_entries_eq, allE_len]; decide) | (refine Nat.le_trans (Nat.add_le_add_left (js2 (relsub _)) _) ?_; simp only [Str.length_append, l_sp, sizeLine_eq]; omega) | (have z9 := l_re _ m_word; simp only [Str.length_append, l_sp, sizeLine_eq]; omega) | walk_at "side") ?_
      exact (.keep (.keepE (congrArg (fun z => (own (.ref p_rule) (oIns T.cR) (dR z))) (show (m_entries_without s1 (m_expand entry)) = (st__law_rule_1 s1 entry) from rfl)) (.keep (.forget (.forget (.forget (.forget (.forget (.forget EntL.nil)))))))))
    refine ex_retO (i := 1) rfl hp_rule oat_ins ?_
    exact (congrArg (fun z => (fre (oIns T.cR) (dR z))) (show (((m__law_entries.filter (fun entry => (!decide (entry ∈ entries)))).map (fun entry => entry)).foldl st__law_rule_1 (m_gathered_entries ["* * *"])) = m__law_rule entries from by unfold m__law_rule; rw [if_pos h1]))
  · refine ex_next ?_
    refine ex_seq (ex_asgO (i := 4) (fr_lst (T := tStr) (xs := ([] : List Str)) ea_nil (by show 0 ≤ sizeLine; decide)) (by show _ < 9; decide) oat_list (fun p_lines hp_lines => ?_))
    refine ex_seq (ex_forLF (S := (List Str)) (fun s2 : (List Str) => [(dat (tList tStr) entries), (own (.ref p_rule) (oIns T.cR) (dR (m_gathered_entries ["* * *"]))), (dat (tList tStr) ((m__law_entries.filter (fun entry => (!decide (entry ∈ entries)))).map (fun entry => entry))), any, (own (.ref p_lines) (oList tStr) s2), any, any, any, any]) (st__law_rule_2 entries) ([] : List Str) (EvE.row (K := K) ((ev_call (ins := in__law_standings K T) () ea_nil trivial (fr__law_standings ()))).lst) (.keep (.keep (.keep (.forget (.keep (.forget (.forget (.forget (.forget EntL.nil))))))))) (fun _ => by show _ < 9; decide) (fun pre post standing hx => ?_) ?_)
    · generalize hS : pre.foldl (st__law_rule_2 entries) ([] : List Str) = s2
      have i2 : s2.length ≤ 7 * pre.length := by rw [← hS]; have := rl2_len entries pre []; simpa using this
      have q2 : pre.length ≤ 3 := by have h5 : m__law_standings.length = 3 := rfl; rw [hx] at h5; simp at h5; omega
      have w1 : standing.length ≤ 10 := l_st _ (show standing ∈ m__law_standings from by rw [hx]; simp)
      have v1 : standing ∈ m__law_standings := by rw [hx]; simp
      refine ex_forLF (S := (List Str)) (fun s3 : (List Str) => [(dat (tList tStr) entries), (own (.ref p_rule) (oIns T.cR) (dR (m_gathered_entries ["* * *"]))), (dat (tList tStr) ((m__law_entries.filter (fun entry => (!decide (entry ∈ entries)))).map (fun entry => entry))), any, (own (.ref p_lines) (oList tStr) s3), (dat tStr standing), any, any, any]) (st__law_rule_3 entries standing) s2 (EvE.row (K := K) ((ev_call (ins := in__law_deeds K T) () ea_nil trivial (fr__law_deeds ()))).lst) (.keep (.keep (.keep (.forget (.keep (.keep (.forget (.forget (.forget EntL.nil))))))))) (fun _ => by show _ < 9; decide) (fun pre post deed hx => ?_) ?_
      · generalize hS : pre.foldl (st__law_rule_3 entries standing) s2 = s3
        have i3 : s3.length ≤ s2.length + pre.length := by rw [← hS]; exact rl3_len entries standing pre s2
        have q3 : pre.length ≤ 7 := by have h5 : m__law_deeds.length = 7 := rfl; rw [hx] at h5; simp at h5; omega
        have w2 : deed.length ≤ 10 := l_de _ (show deed ∈ m__law_deeds from by rw [hx]; simp)
        have v2 : deed ∈ m__law_deeds := by rw [hx]; simp
        refine ex_seq (ex_asg (i := 7) ((ev_lcL (U := tStr) (fun word => (decide (((((standing ++ (" " : Str)) ++ deed) ++ (" " : Str)) ++ word) ∈ entries))) (fun word => word) (EvE.row (K := K) ((ev_call (ins := in__law_relations K T) () ea_nil trivial (fr__law_relations ()))).lst) (by show _ < 9; decide) (by first | exact ⟨i1, (ent_x m1).1⟩ | exact js1 (relsub _) | exact js3 (relsub _) | exact rl_read entries | exact rl_sum entries | (rw [all_entries_eq, allE_len]; decide) | (refine Nat.le_trans (Nat.add_le_add_left (js2 (relsub _)) _) ?_; simp only [Str.length_append, l_sp, sizeLine_eq]; omega) | (have z9 := l_re _ m_word; simp only [Str.length_append, l_sp, sizeLine_eq]; omega) | walk_at "side") (fun word m_word => (et_test (ev_isL (ev_addS (ev_addS (ev_addS (ev_addS (ev_var rfl) ev_str (by first | exact ⟨i1, (ent_x m1).1⟩ | exact js1 (relsub _) | exact js3 (relsub _) | exact rl_read entries | exact rl_sum entries | (rw [all_entries_eq, allE_len]; decide) | (refine Nat.le_trans (Nat.add_le_add_left (js2 (relsub _)) _) ?_; simp only [Str.length_append, l_sp, sizeLine_eq]; omega) | (have z9 := l_re _ m_word; simp only [Str.length_append, l_sp, sizeLine_eq]; omega) | walk_at "side")) (ev_var rfl) (by first | exact ⟨i1, (ent_x m1).1⟩ | exact js1 (relsub _) | exact js3 (relsub _) | exact rl_read entries | exact rl_sum entries | (rw [all_entries_eq, allE_len]; decide) | (refine Nat.le_trans (Nat.add_le_add_left (js2 (relsub _)) _) ?_; simp only [Str.length_append, l_sp, sizeLine_eq]; omega) | (have z9 := l_re _ m_word; simp only [Str.length_append, l_sp, sizeLine_eq]; omega) | walk_at "side")) ev_str (by first | exact ⟨i1, (ent_x m1).1⟩ | exact js1 (relsub _) | exact js3 (relsub _) | exact rl_read entries | exact rl_sum entries | (rw [all_entries_eq, allE_len]; decide) | (refine Nat.le_trans (Nat.add_le_add_left (js2 (relsub _)) _) ?_; simp only [Str.length_append, l_sp, sizeLine_eq]; omega) | (have z9 := l_re _ m_word; simp only [Str.length_append, l_sp, sizeLine_eq]; omega) | walk_at "side")) (ev_var rfl) (by first | exact ⟨i1, (ent_x m1).1⟩ | exact js1 (relsub _) | exact js3 (relsub _) | exact rl_read entries | exact rl_sum entries | (rw [all_entries_eq, allE_len]; decide) | (refine Nat.le_trans (Nat.add_le_add_left (js2 (relsub _)) _) ?_; simp only [Str.length_append, l_sp, sizeLine_eq]; omega) | (have z9 := l_re _ m_word; simp only [Str.length_append, l_sp, sizeLine_eq]; omega) | walk_at "side")) (EvE.row (K := K) (ev_var rfl))))) (fun word m_word _ => (ev_var rfl)))).lst (by show _ < 9; decide) ?_)
        refine ex_seqJ [(dat (tList tStr) entries), (own (.ref p_rule) (oIns T.cR) (dR (m_gathered_entries ["* * *"]))), (dat (tList tStr) ((m__law_entries.filter (fun entry => (!decide (entry ∈ entries)))).map (fun entry => entry))), any, (own (.ref p_lines) (oList tStr) (if (!(((m__law_relations.filter (fun word => (decide (((((standing ++ (" " : Str)) ++ deed) ++ (" " : Str)) ++ word) ∈ entries)))).map (fun word => word))).isEmpty) = true then (s3 ++ [((((standing ++ (" " : Str)) ++ deed) ++ (" " : Str)) ++ (Txt.join ("," : Str) ((m__law_relations.filter (fun word => (decide (((((standing ++ (" " : Str)) ++ deed) ++ (" " : Str)) ++ word) ∈ entries)))).map (fun word => word))))]) else s3)), (dat tStr standing), (dat tStr deed), (dat (tList tStr) ((m__law_relations.filter (fun word => (decide (((((standing ++ (" " : Str)) ++ deed) ++ (" " : Str)) ++ word) ∈ entries)))).map (fun word => word))), any] (ex_if (et_test (ev_neE (by first | exact ⟨i1, (ent_x m1).1⟩ | exact js1 (relsub _) | exact js3 (relsub _) | exact rl_read entries | exact rl_sum entries | (rw [all_entries_eq, allE_len]; decide) | (refine Nat.le_trans (Nat.add_le_add_left (js2 (relsub _)) _) ?_; simp only [Str.length_append, l_sp, sizeLine_eq]; omega) | (have z9 := l_re _ m_word; simp only [Str.length_append, l_sp, sizeLine_eq]; omega) | walk_at "side") (ev_var rfl) ((fr_lst (T := tStr) (xs := ([] : List Str)) ea_nil (by show 0 ≤ sizeLine; decide))).lst)) (fun h4002 => ?_) (fun h4002 => ?_)) ?_
        · refine ex_append (i := 4) rfl (ev_addS (ev_addS (ev_addS (ev_addS (ev_var rfl) ev_str (by first | exact ⟨i1, (ent_x m1).1⟩ | exact js1 (relsub _) | exact js3 (relsub _) | exact rl_read entries | exact rl_sum entries | (rw [all_entries_eq, allE_len]; decide) | (refine Nat.le_trans (Nat.add_le_add_left (js2 (relsub _)) _) ?_; simp only [Str.length_append, l_sp, sizeLine_eq]; omega) | (have z9 := l_re _ m_word; simp only [Str.length_append, l_sp, sizeLine_eq]; omega) | walk_at "side")) (ev_var rfl) (by first | exact ⟨i1, (ent_x m1).1⟩ | exact js1 (relsub _) | exact js3 (relsub _) | exact rl_read entries | exact rl_sum entries | (rw [all_entries_eq, allE_len]; decide) | (refine Nat.le_trans (Nat.add_le_add_left (js2 (relsub _)) _) ?_; simp only [Str.length_append, l_sp, sizeLine_eq]; omega) | (have z9 := l_re _ m_word; simp only [Str.length_append, l_sp, sizeLine_eq]; omega) | walk_at "side")) ev_str (by first | exact ⟨i1, (ent_x m1).1⟩ | exact js1 (relsub _) | exact js3 (relsub _) | exact rl_read entries | exact rl_sum entries | (rw [all_entries_eq, allE_len]; decide) | (refine Nat.le_trans (Nat.add_le_add_left (js2 (relsub _)) _) ?_; simp only [Str.length_append, l_sp, sizeLine_eq]; omega) | (have z9 := l_re _ m_word; simp only [Str.length_append, l_sp, sizeLine_eq]; omega) | walk_at "side")) (ev_join (K := K) rfl ev_str (EvE.row (K := K) (ev_var rfl)) (by first | exact ⟨i1, (ent_x m1).1⟩ | exact js1 (relsub _) | exact js3 (relsub _) | exact rl_read entries | exact rl_sum entries | (rw [all_entries_eq, allE_len]; decide) | (refine Nat.le_trans (Nat.add_le_add_left (js2 (relsub _)) _) ?_; simp only [Str.length_append, l_sp, sizeLine_eq]; omega) | (have z9 := l_re _ m_word; simp only [Str.length_append, l_sp, sizeLine_eq]; omega) | walk_at "side")) (by first | exact ⟨i1, (ent_x m1).1⟩ | exact js1 (relsub _) | exact js3 (relsub _) | exact rl_read entries | exact rl_sum entries | (rw [all_entries_eq, allE_len]; decide) | (refine Nat.le_trans (Nat.add_le_add_left (js2 (relsub _)) _) ?_; simp only [Str.length_append, l_sp, sizeLine_eq]; omega) | (have z9 := l_re _ m_word; simp only [Str.length_append, l_sp, sizeLine_eq]; omega) | walk_at "side")) rfl (by first | exact ⟨i1, (ent_x m1).1⟩ | exact js1 (relsub _) | exact js3 (relsub _) | exact rl_read entries | exact rl_sum entries | (rw [all_entries_eq, allE_len]; decide) | (refine Nat.le_trans (Nat.add_le_add_left (js2 (relsub _)) _) ?_; simp only [Str.length_append, l_sp, sizeLine_eq]; omega) | (have z9 := l_re _ m_word; simp only [Str.length_append, l_sp, sizeLine_eq]; omega) | walk_at "side") ?_
          exact (.keep (.keep (.keep (.keep (.keepE (by rw [if_pos h4002]) (.keep (.keep (.keep (.keep EntL.nil)))))))))
        · refine ex_next ?_
          exact (.keep (.keep (.keep (.keep (.keepE (by rw [if_neg (nt h4002)]) (.keep (.keep (.keep (.keep EntL.nil)))))))))
        refine ex_next ?_
        exact (.keep (.keep (.keep (.forget (.keepE (congrArg (fun z => (own (.ref p_lines) (oList tStr) z)) (show (if (!(((m__law_relations.filter (fun word => (decide (((((standing ++ (" " : Str)) ++ deed) ++ (" " : Str)) ++ word) ∈ entries)))).map (fun word => word))).isEmpty) = true then (s3 ++ [((((standing ++ (" " : Str)) ++ deed) ++ (" " : Str)) ++ (Txt.join ("," : Str) ((m__law_relations.filter (fun word => (decide (((((standing ++ (" " : Str)) ++ deed) ++ (" " : Str)) ++ word) ∈ entries)))).map (fun word => word))))]) else s3) = ((st__law_rule_3 entries standing) s3 deed) from rfl)) (.keep (.forget (.forget (.forget EntL.nil)))))))))
      exact (.keep (.keep (.keep (.forget (.keepE (congrArg (fun z => (own (.ref p_lines) (oList tStr) z)) (show (m__law_deeds.foldl (st__law_rule_3 entries standing) s2) = ((st__law_rule_2 entries) s2 standing) from rfl)) (.forget (.forget (.forget (.forget EntL.nil)))))))))
    refine ex_ret (ev_cm (ev_call (pre := fun a : Str => a.length ≤ 100000 ∧ (a ≠ "" → ∀ l ∈ Txt.split a "\n", preX l)) (ins := fun a => [isv (.ref T.cR), dat tStr a]) (res := fun a => fre (oIns T.cR) (dR (m_read a))) (Txt.join ("\n" : Str) (m__law_standings.foldl (st__law_rule_2 entries) ([] : List Str))) (ea_cons ev_isv (ea_cons (ev_joinO (K := K) rfl ev_str (ev_varO rfl) (m := 4) rfl (by first | exact ⟨i1, (ent_x m1).1⟩ | exact js1 (relsub _) | exact js3 (relsub _) | exact rl_read entries | exact rl_sum entries | (rw [all_entries_eq, allE_len]; decide) | (refine Nat.le_trans (Nat.add_le_add_left (js2 (relsub _)) _) ?_; simp only [Str.length_append, l_sp, sizeLine_eq]; omega) | (have z9 := l_re _ m_word; simp only [Str.length_append, l_sp, sizeLine_eq]; omega) | walk_at "side")) ea_nil)) (by first | exact ⟨i1, (ent_x m1).1⟩ | exact js1 (relsub _) | exact js3 (relsub _) | exact rl_read entries | exact rl_sum entries | (rw [all_entries_eq, allE_len]; decide) | (refine Nat.le_trans (Nat.add_le_add_left (js2 (relsub _)) _) ?_; simp only [Str.length_append, l_sp, sizeLine_eq]; omega) | (have z9 := l_re _ m_word; simp only [Str.length_append, l_sp, sizeLine_eq]; omega) | walk_at "side") (fr_lc fr_isv fr_l1))) ?_
    exact (congrArg (fun z => (fre (oIns T.cR) (dR z))) (show (m_read (Txt.join ("\n" : Str) (m__law_standings.foldl (st__law_rule_2 entries) ([] : List Str)))) = m__law_rule entries from by unfold m__law_rule; rw [if_neg (nt h1)]))
end
end K79
/-! text D17 -/
set_option maxHeartbeats 1000000
/-! D17: the draws -/
namespace K79
open PySem PySem.Spec PyProof.Rows L2 Sw ItX
section
variable {P : Program} {w : World} {K : PySem.W.Frag} {mg : Str → Option Value} {base : Heap} (T : Tx w K mg)
abbrev N__law_draw : List Str := ["source", "size", "number", "drawn", "mixed"]
theorem sc__law_draw : FnScope N__law_draw ["source", "size"] (defScope (top 44)) := ⟨rfl, rfl, rfl, by decide +kernel, rfl, by decide +kernel, by decide +kernel⟩
abbrev Src : Type := List Int × Int × Int × Int
abbrev src (s : Src) : List Dt := [dt (tList tInt) s.1, dt tInt s.2.1, dt tInt s.2.2.1, dt tInt s.2.2.2]
def okS (s : Src) : Prop := 0 ≤ s.2.1 ∧ s.1.length ≤ 1000
def d_num (s : Src) : Int := if ixD s.1 s.2.1 < 0 then -1 - ixD s.1 s.2.1 else ixD s.1 s.2.1
def d_l (s : Src) : Int := if s.2.2.1 < 0 then d_num s else s.2.2.1
def d_t (s : Src) : Int := (if s.2.2.1 < 0 then 0 else s.2.2.2) + 1
def m_draw (s : Src) (size : Int) : Int × Src :=
  if s.2.1 ≥ (s.1.length : Int) then (0, s) else
  if d_num s ≥ 10 ^ 18 then
    if d_l s / size > 0 ∧ d_t s < 60 then (d_l s % size, s.1, s.2.1, d_l s / size, d_t s) else (d_l s % size, s.1, s.2.1 + 1, -1, d_t s)
  else if d_t s = 1 then
    ((((d_num s * 48271 + s.2.1 * 7919 + 12345) % 2147483647 * 69621 + 101) % 1000003) % size, s.1, s.2.1, d_l s, d_t s)
  else
    ((((d_num s * 16807 + s.2.1 * 104729 + 54321) % 2147483399 * 40692 + 211) % 999983) % size, s.1, s.2.1 + 1, -1, d_t s)
abbrev sp__law_draw : Sp := spM (A := Src × Int) (fun a => okS a.1 ∧ 0 < a.2 ∧ a.2 < 1000000) oSeq (fun a => src a.1) (fun a => [dat tInt a.2]) (fun a => src (m_draw a.1 a.2).2) (fun a => dat tInt (m_draw a.1 a.2).1)
theorem g__law_draw (T : Tx w K mg) : Gn P w K mg base 1 "_law_draw" sp__law_draw := by
  have nd := sc__law_draw.nd
  refine gn_of T.d__law_draw sc__law_draw (fun vs H Q E ⟨a, _, _, x, ws, _, e, hl, _⟩ => by rw [e]; simp [hl]) (fun _ _ _ _ _ _ us hl => match us, hl with | [_, _], _ => rfl) (fun f cdv A outer s H vs Q E hr h => ⟨_, (pss_cons (ps_if (pt_cmpR op_ge (pe_ix ix_list (pv 0) pe_int (fun _ _ => rfl)) (pe_callB call_len_seq (by rfl) T.n_len PySem.boot_len (pa_cons (pe_ix ix_list (pv 0) pe_int (fun _ _ => rfl)) pa_nil)) (nomark _)) (pss_one (ps_ret pe_int)) pss_nil) (pss_cons (ps_set (i := 2) nd rfl (by first | exact Or.inl rfl | exact Or.inr rfl) (pe_ix ix_list (pe_ix ix_list (pv 0) pe_int (fun _ _ => rfl)) (pe_ix ix_list (pv 0) pe_int (fun _ _ => rfl)) (fun _ _ => rfl))) (pss_cons (ps_if (pt_cmpR op_lt (pv 2) pe_int (nomark _)) (pss_one (ps_set (i := 2) nd rfl (by first | exact Or.inl rfl | exact Or.inr rfl) (pe_op op_sub (pe_un un_neg pe_int) (pv 2)))) pss_nil) (pss_cons (ps_if (pt_cmpR op_lt (pe_ix ix_list (pv 0) pe_int (fun _ _ => rfl)) pe_int (nomark _)) (pss_cons (ps_asg (pv 2) (pg_sub (pv 0) pe_int set_list)) (pss_one (ps_asg pe_int (pg_sub (pv 0) pe_int set_list)))) pss_nil) (pss_cons (ps_asg (pe_op op_add (pe_ix ix_list (pv 0) pe_int (fun _ _ => rfl)) pe_int) (pg_sub (pv 0) pe_int set_list)) (pss_cons (ps_if (pt_cmpR op_ge (pv 2) (pe_op op_pow pe_int pe_int) (nomark _)) (pss_cons (ps_set (i := 3) nd rfl (by first | exact Or.inl rfl | exact Or.inr rfl) (pe_op op_mod (pe_callTy call_int1 (by rfl) T.n_int (by decide +kernel) (pa_cons (pe_ix ix_list (pv 0) pe_int (fun _ _ => rfl)) pa_nil)) (pv 1))) (pss_cons (ps_asg (pe_op op_fdivW (pe_ix ix_list (pv 0) pe_int (fun _ _ => rfl)) (pv 1)) (pg_sub (pv 0) pe_int set_list)) (pss_one (ps_if (PW.pt (pw_and (pt_cmpR op_gt (pe_ix ix_list (pv 0) pe_int (fun _ _ => rfl)) pe_int (nomark _)) (pw_and1 (pt_cmpR op_lt (pe_ix ix_list (pv 0) pe_int (fun _ _ => rfl)) pe_int (nomark _))))) (pss_one (ps_ret (pv 3))) pss_nil)))) (pss_one (ps_if (pt_cmpR op_eq (pe_ix ix_list (pv 0) pe_int (fun _ _ => rfl)) pe_int (nomark _)) (pss_cons (ps_set (i := 4) nd rfl (by first | exact Or.inl rfl | exact Or.inr rfl) (pe_op op_mod (pe_callTy call_int1 (by rfl) T.n_int (by decide +kernel) (pa_cons (pe_op op_add (pe_op op_add (pe_op op_mul (pv 2) pe_int) (pe_op op_mul (pe_ix ix_list (pv 0) pe_int (fun _ _ => rfl)) pe_int)) pe_int) pa_nil)) pe_int)) (pss_one (ps_ret (pe_op op_mod (pe_callTy call_int1 (by rfl) T.n_int (by decide +kernel) (pa_cons (pe_op op_mod (pe_callTy call_int1 (by rfl) T.n_int (by decide +kernel) (pa_cons (pe_op op_add (pe_op op_mul (pv 4) pe_int) pe_int) pa_nil)) pe_int) pa_nil)) (pv 1))))) (pss_cons (ps_set (i := 4) nd rfl (by first | exact Or.inl rfl | exact Or.inr rfl) (pe_op op_mod (pe_callTy call_int1 (by rfl) T.n_int (by decide +kernel) (pa_cons (pe_op op_add (pe_op op_add (pe_op op_mul (pv 2) pe_int) (pe_op op_mul (pe_ix ix_list (pv 0) pe_int (fun _ _ => rfl)) pe_int)) pe_int) pa_nil)) pe_int)) (pss_one (ps_set (i := 3) nd rfl (by first | exact Or.inl rfl | exact Or.inr rfl) (pe_op op_mod (pe_callTy call_int1 (by rfl) T.n_int (by decide +kernel) (pa_cons (pe_op op_mod (pe_callTy call_int1 (by rfl) T.n_int (by decide +kernel) (pa_cons (pe_op op_add (pe_op op_mul (pv 4) pe_int) pe_int) pa_nil)) pe_int) pa_nil)) (pv 1)))))))) (pss_cons (ps_asg (pe_op op_add (pe_ix ix_list (pv 0) pe_int (fun _ _ => rfl)) pe_int) (pg_sub (pv 0) pe_int set_list)) (pss_cons (ps_asg (pe_un un_neg pe_int) (pg_sub (pv 0) pe_int set_list)) (pss_one (ps_ret (pv 3))))))))))), body_M h fun a B x hp => ?_⟩)
  obtain ⟨⟨xs, p, l, t⟩, size⟩ := a
  obtain ⟨⟨hp0, hlen⟩, hs0, hs1⟩ := hp
  refine ex_ref (i := 0) rfl oat_seq fun q hq => ?_
  subst hq
  simp only at hp0 hlen hs0 hs1
  refine ex_seq (ex_if (et_test (ev_cmpI (ev_ixQ (T := tInt) (a := p) (ev_varO rfl) ev_int (m := 0) rfl rfl) (ev_lenL (ea_cons (EvE.row (K := K) (ev_ixQ (T := tList tInt) (a := xs) (ev_varO rfl) ev_int (m := 0) rfl rfl)) ea_nil)))) (fun h1 => ?_) (fun h1 => ?_))
  · refine ex_ret ev_int ?_
    have e : m_draw (xs, p, l, t) size = (0, (xs, p, l, t)) := by unfold m_draw; rw [if_pos (of_decide_eq_true h1)]
    exact ⟨congrArg (fun z : Int × Src => dat tInt z.1) e.symm, congrArg (fun z : Int × Src => some (own (.ref q) oSeq (src z.2))) e.symm⟩
  refine ex_next ?_
  have h1' : ¬ p ≥ (xs.length : Int) := of_decide_eq_false h1
  refine ex_seq (ex_asg (i := 2) (ev_ixL (T := tInt) (a := ixD xs p) (EvE.row (K := K) (ev_ixQ (T := tList tInt) (a := xs) (ev_varO rfl) ev_int (m := 0) rfl rfl)) (ev_ixQ (T := tInt) (a := p) (ev_varO rfl) ev_int (m := 0) rfl rfl) (atI_some hp0 (by omega))) (by show _ < 5; decide) ?_)
  refine ex_seqJ [own (.ref q) oSeq (src (xs, p, l, t)), dat tInt size, dat tInt (d_num (xs, p, l, t)), any, any] (ex_if (et_test (ev_cmpI (ev_var rfl) ev_int)) (fun h => ?_) (fun h => ?_)) ?_
  · refine ex_asg (i := 2) (ev_sub (ev_neg ev_int) (ev_var rfl)) (by show _ < 5; decide) ?_
    exact .keep (.keep (.keepE (congrArg (fun z => dat tInt z) (show _ = d_num (xs, p, l, t) from by unfold d_num; rw [if_pos (of_decide_eq_true h)])) (.keep (.keep EntL.nil))))
  · refine ex_next ?_
    exact .keep (.keep (.keepE (congrArg (fun z => dat tInt z) (show _ = d_num (xs, p, l, t) from by unfold d_num; rw [if_neg (of_decide_eq_false h)])) (.keep (.keep EntL.nil))))
  refine ex_seqJ [own (.ref q) oSeq (src (xs, p, d_l (xs, p, l, t), if l < 0 then 0 else t)), dat tInt size, dat tInt (d_num (xs, p, l, t)), any, any] (ex_if (et_test (ev_cmpI (ev_ixQ (T := tInt) (a := l) (ev_varO rfl) ev_int (m := 0) rfl rfl) ev_int)) (fun h => ?_) (fun h => ?_)) ?_
  · refine ex_seq (ex_setQ (i := 0) (p := q) (T := tInt) (a := d_num (xs, p, l, t)) (n := 2) (ds := src (xs, p, l, t)) (ev_var rfl) rfl ev_int rfl rfl ?_)
    refine ex_setQ (i := 0) (p := q) (T := tInt) (a := (0 : Int)) (n := 3) (ds := src (xs, p, d_num (xs, p, l, t), t)) ev_int rfl ev_int rfl rfl ?_
    exact .keepE (congrArg (fun z => own (.ref q) oSeq z) (show src (xs, p, d_num (xs, p, l, t), 0) = src (xs, p, d_l (xs, p, l, t), if l < 0 then 0 else t) from by unfold d_l; rw [if_pos (of_decide_eq_true h), if_pos (of_decide_eq_true h)])) (.keep (.keep (.keep (.keep EntL.nil))))
  · refine ex_next ?_
    exact .keepE (congrArg (fun z => own (.ref q) oSeq z) (show src (xs, p, l, t) = src (xs, p, d_l (xs, p, l, t), if l < 0 then 0 else t) from by unfold d_l; rw [if_neg (of_decide_eq_false h), if_neg (of_decide_eq_false h)])) (.keep (.keep (.keep (.keep EntL.nil))))
  refine ex_seq (ex_setQ (i := 0) (p := q) (T := tInt) (a := d_t (xs, p, l, t)) (n := 3) (ds := src (xs, p, d_l (xs, p, l, t), if l < 0 then 0 else t)) (ev_add (ev_ixQ (T := tInt) (a := if l < 0 then 0 else t) (ev_varO rfl) ev_int (m := 0) rfl rfl) ev_int) rfl ev_int rfl rfl ?_)
  generalize hN : d_num (xs, p, l, t) = n
  generalize hL : d_l (xs, p, l, t) = L
  generalize hT : d_t (xs, p, l, t) = t2
  have hM : m_draw (xs, p, l, t) size = (if n ≥ 10 ^ 18 then (if L / size > 0 ∧ t2 < 60 then (L % size, xs, p, L / size, t2) else (L % size, xs, p + 1, -1, t2)) else if t2 = 1 then
    ((((n * 48271 + p * 7919 + 12345) % 2147483647 * 69621 + 101) % 1000003) % size, xs, p, L, t2)
    else ((((n * 16807 + p * 104729 + 54321) % 2147483399 * 40692 + 211) % 999983) % size, xs, p + 1, -1, t2)) := by
    unfold m_draw
    rw [if_neg h1', hN, hL, hT]
  show ExS B [own (.ref q) oSeq (src (xs, p, L, t2)), dat tInt size, dat tInt n, any, any] _ _
  have rd : ∀ {ρ : List SV} {s : Src}, ρ[0]? = some (own (.ref q) oSeq (src s)) → EvE B ρ (tOp (rIxL K) (tVar 0) (tC (.int 1))) (dat tInt s.2.1) ρ ∧ EvE B ρ (tOp (rIxL K) (tVar 0) (tC (.int 2))) (dat tInt s.2.2.1) ρ ∧ EvE B ρ (tOp (rIxL K) (tVar 0) (tC (.int 3))) (dat tInt s.2.2.2) ρ := fun h =>
    ⟨ev_ixQ (T := tInt) (ev_varO h) ev_int (m := 0) h rfl, ev_ixQ (T := tInt) (ev_varO h) ev_int (m := 0) h rfl, ev_ixQ (T := tInt) (ev_varO h) ev_int (m := 0) h rfl⟩
  have two64 : (2 : Int) ^ 64 = 18446744073709551616 := by decide
  have mul : ∀ {ρ ρ1 ρ2 : List SV} {ta tb : TE} {a b : Int}, EvE B ρ ta (dat tInt a) ρ1 → EvE B ρ1 tb (dat tInt b) ρ2 → -(2 ^ 64) < b ∧ b < 2 ^ 64 → EvE B ρ (tOp (rI CMul fun i j => .int (i * j)) ta tb) (dat tInt (a * b)) ρ2 := fun ha hb h => ev_I (g := fun i j => i * j) ha hb (.inr h)
  have md : ∀ {ρ ρ1 ρ2 : List SV} {ta tb : TE} {a b : Int}, EvE B ρ ta (dat tInt a) ρ1 → EvE B ρ1 tb (dat tInt b) ρ2 → 0 < b → EvE B ρ (tOp (rI (fun _ j => 0 < j) fun i j => .int (i % j)) ta tb) (dat tInt (a % b)) ρ2 := fun ha hb h => ev_I (g := fun i j => i % j) ha hb h
  refine ex_seq (ex_if (et_test (ev_cmpI (ev_var rfl) (ev_I (g := fun i j => i ^ j.toNat) ev_int ev_int ⟨by decide, by decide, by decide⟩))) (fun h => ?_) (fun h => ?_))
  · have hb : n ≥ 10 ^ 18 := of_decide_eq_true h
    refine ex_seq (ex_asg (i := 3) (md (ev_intI (ea_cons (rd (s := (xs, p, L, t2)) rfl).2.1 ea_nil)) (ev_var rfl) hs0) (by show _ < 5; decide) ?_)
    refine ex_seq (ex_setQ (i := 0) (p := q) (T := tInt) (a := L / size) (n := 2) (ds := src (xs, p, L, t2)) (ev_I (g := fun i j => i / j) (rd (s := (xs, p, L, t2)) rfl).2.1 (ev_var rfl) (wide_div (b := 20) hs0 (by omega) (by decide) (by decide))) rfl ev_int rfl rfl ?_)
    refine ex_if (et_and (et_test (ev_cmpI (rd (s := (xs, p, L / size, t2)) rfl).2.1 ev_int)) (fun _ => et_test (ev_cmpI (rd (s := (xs, p, L / size, t2)) rfl).2.2 ev_int))) (fun h2 => ?_) (fun h2 => ?_)
    · have e : m_draw (xs, p, l, t) size = (L % size, xs, p, L / size, t2) := by
        rw [Bool.and_eq_true] at h2
        rw [hM, if_pos hb, if_pos ⟨of_decide_eq_true h2.1, of_decide_eq_true h2.2⟩]
      refine ex_ret (ev_var rfl) ?_
      exact ⟨congrArg (fun z : Int × Src => dat tInt z.1) e.symm, congrArg (fun z : Int × Src => some (own (.ref q) oSeq (src z.2))) e.symm⟩
    · have e : m_draw (xs, p, l, t) size = (L % size, xs, p + 1, -1, t2) := by
        rw [hM, if_pos hb, if_neg (fun z => by rw [decide_eq_true z.1, decide_eq_true z.2] at h2; cases h2)]
      refine ex_next ?_
      refine ex_seq (ex_setQ (i := 0) (p := q) (T := tInt) (a := p + 1) (n := 1) (ds := src (xs, p, L / size, t2)) (ev_add (rd (s := (xs, p, L / size, t2)) rfl).1 ev_int) rfl ev_int rfl rfl ?_)
      refine ex_seq (ex_setQ (i := 0) (p := q) (T := tInt) (a := (-1 : Int)) (n := 2) (ds := src (xs, p + 1, L / size, t2)) (ev_neg ev_int) rfl ev_int rfl rfl ?_)
      refine ex_ret (ev_var rfl) ?_
      exact ⟨congrArg (fun z : Int × Src => dat tInt z.1) e.symm, congrArg (fun z : Int × Src => some (own (.ref q) oSeq (src z.2))) e.symm⟩
  · have hb : ¬ n ≥ 10 ^ 18 := of_decide_eq_false h
    refine ex_if (et_test (ev_eqI (rd (s := (xs, p, L, t2)) rfl).2.2 ev_int)) (fun h2 => ?_) (fun h2 => ?_)
    · have e : m_draw (xs, p, l, t) size = (((((n * 48271 + p * 7919 + 12345) % 2147483647 * 69621 + 101) % 1000003) % size, xs, p, L, t2)) := by
        rw [hM, if_neg hb, if_pos (of_decide_eq_true h2)]
      refine ex_seq (ex_asg (i := 4) (md (ev_intI (ea_cons (ev_add (ev_add (mul (ev_var rfl) ev_int (by decide)) (mul (rd (s := (xs, p, L, t2)) rfl).1 ev_int (by decide))) ev_int) ea_nil)) ev_int (by decide)) (by show _ < 5; decide) ?_)
      refine ex_ret (md (ev_intI (ea_cons (md (ev_intI (ea_cons (ev_add (mul (ev_var rfl) ev_int (by decide)) ev_int) ea_nil)) ev_int (by decide)) ea_nil)) (ev_var rfl) hs0) ?_
      exact ⟨congrArg (fun z : Int × Src => dat tInt z.1) e.symm, congrArg (fun z : Int × Src => some (own (.ref q) oSeq (src z.2))) e.symm⟩
    · have e : m_draw (xs, p, l, t) size = ((((n * 16807 + p * 104729 + 54321) % 2147483399 * 40692 + 211) % 999983) % size, xs, p + 1, -1, t2) := by
        rw [hM, if_neg hb, if_neg (of_decide_eq_false h2)]
      refine ex_seq (ex_asg (i := 4) (md (ev_intI (ea_cons (ev_add (ev_add (mul (ev_var rfl) ev_int (by decide)) (mul (rd (s := (xs, p, L, t2)) rfl).1 ev_int (by decide))) ev_int) ea_nil)) ev_int (by decide)) (by show _ < 5; decide) ?_)
      refine ex_asg (i := 3) (md (ev_intI (ea_cons (md (ev_intI (ea_cons (ev_add (mul (ev_var rfl) ev_int (by decide)) ev_int) ea_nil)) ev_int (by decide)) ea_nil)) (ev_var rfl) hs0) (by show _ < 5; decide) ?_
      refine ex_seq (ex_setQ (i := 0) (p := q) (T := tInt) (a := p + 1) (n := 1) (ds := src (xs, p, L, t2)) (ev_add (rd (s := (xs, p, L, t2)) rfl).1 ev_int) rfl ev_int rfl rfl ?_)
      refine ex_seq (ex_setQ (i := 0) (p := q) (T := tInt) (a := (-1 : Int)) (n := 2) (ds := src (xs, p + 1, L, t2)) (ev_neg ev_int) rfl ev_int rfl rfl ?_)
      refine ex_ret (ev_var rfl) ?_
      exact ⟨congrArg (fun z : Int × Src => dat tInt z.1) e.symm, congrArg (fun z : Int × Src => some (own (.ref q) oSeq (src z.2))) e.symm⟩
end
end K79
/-! text D18 -/
set_option maxHeartbeats 1000000
/-! D18: _law_begin, _law_pick -/
namespace K79
open PySem PySem.Spec PyProof.Rows L2 Sw ItX
theorem dt_ok {α : Type} {T : Ty α} {a : α} : ∀ (io : List Addr) (F H : Hp) (v : V) (fp : List Addr), (dat T a).ok io F H (some v) fp → (dt T a).rep F v := fun _ F _ v _ ⟨_, x, h1, h2⟩ => by cases h1; exact h2
section
variable {P : Program} {w : World} {K : PySem.W.Frag} {mg : Str → Option Value} {base : Heap} (T : Tx w K mg)
abbrev N__law_begin : List Str := ["script"]
theorem sc__law_begin : FnScope N__law_begin ["script"] (defScope (top 43)) := ⟨rfl, rfl, rfl, by decide +kernel, rfl, by decide +kernel, by decide +kernel⟩
abbrev N__law_pick : List Str := ["source", "row"]
theorem sc__law_pick : FnScope N__law_pick ["source", "row"] (defScope (top 45)) := ⟨rfl, rfl, rfl, by decide +kernel, rfl, by decide +kernel, by decide +kernel⟩
theorem m_draw_ok {s : Src} {size : Int} (h : okS s) (hs : 0 < size) : 0 ≤ (m_draw s size).1 ∧ (m_draw s size).1 < size ∧ okS (m_draw s size).2 := by
  have e0 : ∀ a : Int, 0 ≤ a % size := fun a => Int.emod_nonneg a (by omega)
  have e1 : ∀ a : Int, a % size < size := fun a => Int.emod_lt_of_pos a hs
  have k0 : okS (s.1, s.2.1 + 1, -1, d_t s) := ⟨by have := h.1; show 0 ≤ s.2.1 + 1; omega, h.2⟩
  have k1 : ∀ L t, okS (s.1, s.2.1, L, t) := fun L t => ⟨h.1, h.2⟩
  unfold m_draw
  split
  · exact ⟨Int.le_refl _, hs, h⟩
  · split
    · split
      · exact ⟨e0 _, e1 _, k1 _ _⟩
      · exact ⟨e0 _, e1 _, k0⟩
    · split
      · exact ⟨e0 _, e1 _, k1 _ _⟩
      · exact ⟨e0 _, e1 _, k0⟩
abbrev sp__law_begin : Sp := spF (A := List Int) (fun a => a.length ≤ 1000) (fun a => [dat (tList tInt) a]) (fun a => fre oSeq (src (a, 0, -1, 0)))
theorem g__law_begin (T : Tx w K mg) : Gn P w K mg base 1 "_law_begin" sp__law_begin := by
  have nd := sc__law_begin.nd
  refine gn_of T.d__law_begin sc__law_begin (lenF fun _ => rfl) (fun _ _ _ _ _ _ us hl => match us, hl with | [_], _ => rfl) (fun f cdv A outer s H vs Q E hr h => ⟨_, (pss_one (ps_ret (pe_lst (pa_cons (pe_callTy call_list_of (by rfl) T.n_list (by decide +kernel) (pa_cons (pv 0) pa_nil)) (pa_cons pe_int (pa_cons (pe_un un_neg pe_int) (pa_cons pe_int pa_nil))))))), body_F h fun a B hp => ?_⟩)
  refine ex_ret (fr_seq (Rs := [dat (tList tInt) a, dat tInt 0, dat tInt (-1), dat tInt 0]) (ds := src (a, 0, -1, 0)) (ea_cons (fr_list (ea_cons (EvE.row (K := K) (ev_var rfl)) ea_nil)).lst (ea_cons ev_int (ea_cons (ev_neg ev_int) (ea_cons ev_int ea_nil)))) (.cons dt_ok (.cons dt_ok (.cons dt_ok (.cons dt_ok .nil)))) (by show 4 ≤ sizeLine; decide)) ?_
  rfl
abbrev sp__law_pick : Sp := spM (A := Src × List Str) (fun a => okS a.1 ∧ 0 < a.2.length ∧ a.2.length < 1000) oSeq (fun a => src a.1) (fun a => [dat (tList tStr) a.2]) (fun a => src (m_draw a.1 a.2.length).2) (fun a => dat tStr (ixD a.2 (m_draw a.1 a.2.length).1))
theorem g__law_pick (T : Tx w K mg) : Gn P w K mg base 2 "_law_pick" sp__law_pick := by
  have nd := sc__law_pick.nd
  refine gn_of T.d__law_pick sc__law_pick (fun vs H Q E ⟨a, _, _, x, ws, _, e, hl, _⟩ => by rw [e]; simp [hl]) (fun _ _ _ _ _ _ us hl => match us, hl with | [_, _], _ => rfl) (fun f cdv A outer s H vs Q E hr h => ⟨_, (pss_one (ps_ret (pe_ix ix_list (pv 1) (pe_cl (g__law_draw T) hr (by decide) rfl (pa_cons (pv 0) (pa_cons (pe_callB call_len_seq (by rfl) T.n_len PySem.boot_len (pa_cons (pv 1) pa_nil)) pa_nil))) (fun _ _ => rfl)))), body_M h fun a B x hp => ?_⟩)
  obtain ⟨s, row⟩ := a
  obtain ⟨h1, h2, h3⟩ := hp
  simp only at h1 h2 h3
  obtain ⟨d1, d2, d3⟩ := m_draw_ok (size := (row.length : Int)) h1 (by omega)
  refine ex_ret (ev_ixL (T := tStr) (xs := row) (k := (m_draw s row.length).1) (a := ixD row (m_draw s row.length).1) (EvE.row (K := K) (ev_var rfl)) (ev_callM (i := 0) (pre := fun a : Src × Int => okS a.1 ∧ 0 < a.2 ∧ a.2 < 1000000) (O := oSeq) (s0 := fun a => src a.1) (ins := fun a => [dat tInt a.2]) (s1 := fun a => src (m_draw a.1 a.2).2) (res := fun a => dat tInt (m_draw a.1 a.2).1) (s, (row.length : Int)) rfl (ea_cons (ev_lenL (ea_cons (EvE.row (K := K) (ev_var rfl)) ea_nil)) ea_nil) rfl ⟨h1, by show (0 : Int) < row.length; omega, by show (row.length : Int) < 1000000; omega⟩ fr_l1) (atI_some d1 d2)) ?_
  exact ⟨rfl, rfl⟩
end
end K79
/-! text D19 -/
set_option maxHeartbeats 1000000
namespace K79
open PySem PySem.Spec PyProof.Rows L2 Sw
local macro_rules | `(tactic| walk_at "side") => `(tactic| first | omega | with_reducible assumption | with_reducible exact True.intro | (simp only [Str.length_append, l_sp, l_emp, l_rs, l_rl, l_rd, sizeLine_eq, List.length_map, List.length_cons, List.length_nil, List.length_append]; first | omega | with_reducible assumption | (have z1 := l_sg _ ‹_ ∈ c_STRONG›; omega)) | (simp only [l_all]; omega) | (rw [‹Txt.split _ _ = _›]; exact rfl) | assumption | decide)
section
variable {P : Program} {w : World} {K : PySem.W.Frag} {mg : Str → Option Value} {base : Heap}
/-! _law_grown -/
abbrev s__law_grown : Stmt := top 58
abbrev N__law_grown : List Str := ["script", "rows", "mixed", "number", "k"]
theorem sc__law_grown : FnScope N__law_grown ["script"] (defScope s__law_grown) := ⟨rfl, rfl, rfl, by decide +kernel, rfl, by decide +kernel, by decide +kernel⟩
def st__law_grown_2 (s2 : (List Int) × Int) (k : Nat) : (List Int) × Int := ((s2.1 ++ [((((s2.2 * 48271) + ((k : Int) * 69621)) + 11) % 2147483399)]), ((((s2.2 * 48271) + ((k : Int) * 69621)) + 11) % 2147483399))
def st__law_grown_1 (s1 : Int) (number : Int) : Int := (((s1 * 16807) + number) % 2147483647)
def m__law_grown (script : (List Int)) : (List Int) := (if (decide ((script.length : Int) > 7)) = true then (foldN st__law_grown_2 (script, (script.foldl st__law_grown_1 7)) ((40 : Int)).toNat).1 else script)
theorem lgr (s : List Int × Int) : ∀ n, (foldN st__law_grown_2 s n).1.length ≤ s.1.length + n
  | 0 => Nat.le_refl _
  | n + 1 => by
    have h1 := lgr s n
    show (st__law_grown_2 (foldN st__law_grown_2 s n) n).1.length ≤ _
    have h2 : ∀ X : List Int × Int, (st__law_grown_2 X n).1.length = X.1.length + 1 := fun X => by unfold st__law_grown_2; simp
    rw [h2]
    omega
abbrev in__law_grown {w : World} (K : PySem.W.Frag) {mg : Str → Option Value} (T : Tx w K mg) (a : (List Int)) : List SV := [(dat (tRow K tInt) a)]
theorem fr__law_grown {w : World} {K : PySem.W.Frag} {mg : Str → Option Value} {T : Tx w K mg} (a : (List Int)) : ∀ s ∈ in__law_grown K T a, Fr s := (fr_cons fr_dat fr_nil)
abbrev pre__law_grown (a : (List Int)) : Prop := a.length ≤ 63
abbrev sp__law_grown {w : World} (K : PySem.W.Frag) {mg : Str → Option Value} (T : Tx w K mg) : Sp := spF (A := (List Int)) (fun a => pre__law_grown a) (fun a => in__law_grown K T a) (fun a => (fre (oList tInt) (m__law_grown a)))
theorem cl__law_grown {T : Tx w K mg} {B : Bas} {ρ ρ1 : List SV} {as : TA} (a : (List Int)) (h : EvA B ρ as (in__law_grown K T a) ρ1) (hp : pre__law_grown a) : EvE B ρ (tCl (sp__law_grown K T) as) (fre (oList tInt) (m__law_grown a)) ρ1 := ev_call (pre := fun a => pre__law_grown a) (ins := fun a => in__law_grown K T a) (res := fun a => (fre (oList tInt) (m__law_grown a))) a h hp (fr__law_grown a)
theorem g__law_grown (T : Tx w K mg) : Gn P w K mg base 1 "_law_grown" (sp__law_grown K T) := by
  have nd := sc__law_grown.nd
  refine gn_of T.d__law_grown sc__law_grown (lenF fun _ => rfl) (fun _ _ _ _ _ _ us hl => match us, hl with | [_], _ => rfl) (fun f cdv A outer s H vs Q E hr h => ⟨_, (pss_cons (ps_set (i := 1) nd rfl (by first | exact Or.inl rfl | exact Or.inr rfl) (pe_callTy call_list_of (by rfl) T.n_list (by decide +kernel) (pa_cons (pv 0) pa_nil))) (pss_cons (ps_set (i := 2) nd rfl (by first | exact Or.inl rfl | exact Or.inr rfl) pe_int) (pss_cons (ps_for PassesOwn.never rfl (pi_list (pv 0)) (pg_name (i := 3) nd rfl (by first | exact Or.inl rfl | exact Or.inr rfl)) (pss_one (ps_set (i := 2) nd rfl (by first | exact Or.inl rfl | exact Or.inr rfl) (pe_op op_mod (pe_callTy call_int1 (by rfl) T.n_int (by decide +kernel) (pa_cons (pe_op op_add (pe_op op_mul (pv 2) pe_int) (pv 3)) pa_nil)) pe_int)))) (pss_cons (ps_if (pt_cmpR op_gt (pe_callB call_len_seq (by rfl) T.n_len PySem.boot_len (pa_cons (pv 0) pa_nil)) pe_int (nomark _)) (pss_one (ps_for PassesOwn.never rfl (pi_range1 rfl T.n_range (pa_cons pe_int pa_nil)) (pg_name (i := 4) nd rfl (by first | exact Or.inl rfl | exact Or.inr rfl)) (pss_cons (ps_set (i := 2) nd rfl (by first | exact Or.inl rfl | exact Or.inr rfl) (pe_op op_mod (pe_callTy call_int1 (by rfl) T.n_int (by decide +kernel) (pa_cons (pe_op op_add (pe_op op_add (pe_op op_mul (pv 2) pe_int) (pe_op op_mul (pv 4) pe_int)) pe_int) pa_nil)) pe_int)) (pss_one (ps_expr (pe_bm PySem.F.plainAttrs_list PySem.F.slot_list_append PySem.F.type_list_append mt_append (pv 1) (pa_cons (pv 2) pa_nil))))))) pss_nil) (pss_one (ps_ret (pv 1))))))), body_F h fun script B hp => ?_⟩)
  have hp : script.length ≤ 63 := hp
  refine ex_seq (ex_asgO (i := 1) (fr_list (ea_cons (ev_var rfl) ea_nil)) (by show _ < 5; decide) oat_list (fun p_rows hp_rows => ?_))
  refine ex_seq (ex_asg (i := 2) ev_int (by show _ < 5; decide) ?_)
  refine ex_seq (ex_forLF (S := Int) (fun s1 : Int => [(dat (tRow K tInt) script), (own (.ref p_rows) (oList tInt) script), (dat tInt s1), any, any]) st__law_grown_1 7 (ev_var rfl) (.keep (.keep (.keep (.forget (.forget EntL.nil))))) (fun _ => by show _ < 5; decide) (fun pre post number hx => ?_) ?_)
  · generalize hS : pre.foldl st__law_grown_1 7 = s1
    refine ex_asg (i := 2) (ev_I (g := fun i j => i % j) (ev_intI (ea_cons (ev_add (ev_I (g := fun i j => i * j) (ev_var rfl) ev_int (.inr (by decide))) (ev_var rfl)) ea_nil)) ev_int (show (0 : Int) < 2147483647 by decide)) (by show _ < 5; decide) ?_
    exact (.keep (.keep (.keepE (congrArg (fun z => (dat tInt z)) (show (((s1 * 16807) + number) % 2147483647) = (st__law_grown_1 s1 number) from rfl)) (.forget (.forget EntL.nil)))))
  refine ex_seqJ [(dat (tRow K tInt) script), (own (.ref p_rows) (oList tInt) (if (decide ((script.length : Int) > 7)) = true then (foldN st__law_grown_2 (script, (script.foldl st__law_grown_1 7)) ((40 : Int)).toNat).1 else script)), (dat tInt (if (decide ((script.length : Int) > 7)) = true then (foldN st__law_grown_2 (script, (script.foldl st__law_grown_1 7)) ((40 : Int)).toNat).2 else (script.foldl st__law_grown_1 7))), any, any] (ex_if (et_test (ev_cmpI (ev_lenL (ea_cons (ev_var rfl) ea_nil)) ev_int)) (fun h2001 => ?_) (fun h2001 => ?_)) ?_
  · refine ex_forRF (S := (List Int) × Int) (fun s2 : (List Int) × Int => [(dat (tRow K tInt) script), (own (.ref p_rows) (oList tInt) s2.1), (dat tInt s2.2), any, any]) st__law_grown_2 (script, (script.foldl st__law_grown_1 7)) (ea_cons ev_int ea_nil) (by walk_at "side") (.keep (.keep (.keep (.forget (.forget EntL.nil))))) (fun _ => by show _ < 5; decide) (fun k hx => ?_) ?_
    · rw [show foldN st__law_grown_2 (script, (script.foldl st__law_grown_1 7)) (k + 1) = st__law_grown_2 (foldN st__law_grown_2 (script, (script.foldl st__law_grown_1 7)) k) k from rfl]
      generalize hS : foldN st__law_grown_2 (script, (script.foldl st__law_grown_1 7)) k = s2
      have i2 : s2.1.length ≤ script.length + k := by rw [← hS]; exact lgr _ _
      refine ex_seq (ex_asg (i := 2) (ev_I (g := fun i j => i % j) (ev_intI (ea_cons (ev_add (ev_add (ev_I (g := fun i j => i * j) (ev_var rfl) ev_int (.inr (by decide))) (ev_I (g := fun i j => i * j) (ev_var rfl) ev_int (.inr (by decide)))) ev_int) ea_nil)) ev_int (show (0 : Int) < 2147483399 by decide)) (by show _ < 5; decide) ?_)
      refine ex_append (i := 1) rfl (ev_var rfl) rfl (by walk_at "side") ?_
      exact (.keep (.keepE (congrArg (fun z => (own (.ref p_rows) (oList tInt) z)) (show (s2.1 ++ [((((s2.2 * 48271) + ((k : Int) * 69621)) + 11) % 2147483399)]) = (st__law_grown_2 s2 k).1 from rfl)) (.keepE (congrArg (fun z => (dat tInt z)) (show ((((s2.2 * 48271) + ((k : Int) * 69621)) + 11) % 2147483399) = (st__law_grown_2 s2 k).2 from rfl)) (.forget (.forget EntL.nil)))))
    exact (.keep (.keepE (by rw [if_pos h2001]) (.keepE (by rw [if_pos h2001]) (.keep (.keep EntL.nil)))))
  · refine ex_next ?_
    exact (.keep (.keepE (by rw [if_neg (nt h2001)]) (.keepE (by rw [if_neg (nt h2001)]) (.keep (.keep EntL.nil)))))
  refine ex_retO (i := 1) rfl hp_rows oat_list ?_
  exact (congrArg (fun z => (fre (oList tInt) z)) (show (if (decide ((script.length : Int) > 7)) = true then (foldN st__law_grown_2 (script, (script.foldl st__law_grown_1 7)) ((40 : Int)).toNat).1 else script) = m__law_grown script from rfl))
end
end K79
/-! text Gw1 -/
set_option maxHeartbeats 1000000
/-! Gw1: code that runs while generators sleep cannot change them: their rests are put out of reach (a rest that has no run), and the run goes through all the same. -/
namespace Gw
open PySem
open Sem (wp)
/-- no rest -/
def stuck : Resume → Sem PySem.Fin := fun _ => .unsupported ""
theorem no_run {M : Model} {Γ : Ctx} {p : Pos} {t : Sem PySem.Fin} {fs : List Frame} {s s' : Shared} {e : End} (h : Runs M Γ p t fs s e s') : ∀ w, t = .unsupported w → False := by
  induction h <;> intro w hw <;> first | (cases hw; done) | (rename_i ih; exact ih w hw) | (rename_i ih _; exact ih w hw) | (rename_i ih1 ih2; exact ih1 w hw) | skip
/-- a sleeper -/
structure Slp where
  k : Resume → Sem PySem.Fin
  l : List Value
  c : Code
  p : Pos
  fs : List Frame
  cl : Bool
def Slp.st (z : Slp) : GenState := .suspended z.k z.l z.c z.p z.fs z.cl
/-- which rests lie where -/
abbrev Rests := Nat → Option Slp
def asleep (k : Option Slp) : GenState → GenState
  | .suspended k0 l c p fs cl => .suspended (match k with | some z => z.k | none => k0) l c p fs cl
  | x => x
def hushed : GenState → GenState
  | .suspended k0 l c p fs cl => .suspended stuck l c p fs cl
  | x => x
def put (α : Rests) (s : Shared) : Shared := { s with gens := s.gens.mapIdx fun i x => asleep (α i) x }
theorem seen_asleep (k : Option Slp) (x : GenState) : (asleep k x).seen = x.seen := by cases x <;> rfl
theorem asleep_none (x : GenState) : asleep none x = x := by cases x <;> rfl
theorem put_get (α : Rests) (s : Shared) (i : Nat) : (put α s).gens[i]? = (s.gens[i]?).map (asleep (α i)) := by
  show (s.gens.mapIdx _)[i]? = _
  rw [Array.getElem?_mapIdx]
theorem put_size (α : Rests) (s : Shared) : (put α s).gens.size = s.gens.size := by
  show (s.gens.mapIdx _).size = _
  rw [Array.size_mapIdx]
theorem put_set {α : Rests} {s : Shared} {i : Nat} {x : GenState} (h : asleep (α i) x = x) : put α (s.setGen i x) = (put α s).setGen i x := by
  obtain ⟨hp, gs, d, t, o⟩ := s
  have e : (gs.setIfInBounds i x).mapIdx (fun i x => asleep (α i) x) = (gs.mapIdx fun i x => asleep (α i) x).setIfInBounds i x := by
    apply Array.ext_getElem?
    intro j
    rw [Array.getElem?_mapIdx, Array.getElem?_setIfInBounds, Array.getElem?_setIfInBounds, Array.getElem?_mapIdx, Array.size_mapIdx]
    by_cases hj : i = j
    · subst hj
      rw [if_pos rfl, if_pos rfl]
      by_cases hl : i < gs.size
      · rw [if_pos hl, Option.map_some, h]
      · rw [if_neg hl]; rfl
    · rw [if_neg hj, if_neg hj]
  show Shared.mk hp ((gs.setIfInBounds i x).mapIdx (fun i x => asleep (α i) x)) d t o = _
  rw [e]; rfl
theorem put_push {α : Rests} {s : Shared} {c : Code} : put α { s with gens := s.gens.push (.fresh c) } = { put α s with gens := (put α s).gens.push (.fresh c) } := by
  obtain ⟨hp, gs, d, t, o⟩ := s
  show Shared.mk hp ((gs.push (.fresh c)).mapIdx (fun i x => asleep (α i) x)) d t o = Shared.mk hp ((gs.mapIdx fun i x => asleep (α i) x).push (.fresh c)) d t o
  rw [Array.mapIdx_push]; rfl
/-- the sleepers of α lie out of reach; no other sleeper has a generator's frame among its own -/
structure Calm (α : Rests) (s : Shared) : Prop where
  at_ : ∀ i z, α i = some z → s.gens[i]? = some (.suspended stuck z.l z.c z.p z.fs z.cl)
  other : ∀ i k l c p fs cl, α i = none → s.gens[i]? = some (.suspended k l c p fs cl) → splitAtGen fs = none
def Fine (α : Rests) (fs : List Frame) : Prop := ∀ g k l c p, Frame.gen g k l c p ∈ fs → α g = none
theorem Fine.nil {α : Rests} : Fine α [] := fun _ _ _ _ _ h => nomatch h
theorem Fine.of_none {α : Rests} : ∀ {fs : List Frame}, splitAtGen fs = none → Fine α fs
  | [], _ => Fine.nil
  | .gen .. :: _, h => by cases h
  | .ret a b c d e f g :: fs, h => fun g' k l c' p hm => by
    rw [splitAtGen_ret] at h
    rcases List.mem_cons.mp hm with z | z
    · cases z
    · exact Fine.of_none (fs := fs) (by cases q : splitAtGen fs with | none => rfl | some x => rw [q] at h; cases h) g' k l c' p z
theorem split_mem : ∀ {fs pre rest : List Frame} {g : Nat} {k : GenResult → Sem PySem.Fin} {c : Code} {p : Pos}, splitAtGen fs = some (pre, (g, k, c, p), rest) → (∃ l, Frame.gen g k l c p ∈ fs) ∧ (∀ F ∈ rest, F ∈ fs)
  | [], _, _, _, _, _, _, h => by cases h
  | .gen g' k' l' c' p' :: fs, pre, rest, g, k, c, p, h => by
    rw [splitAtGen_gen] at h
    cases h
    exact ⟨⟨l', List.mem_cons_self⟩, fun F hF => List.mem_cons_of_mem _ hF⟩
  | .ret a b d e f i j :: fs, pre, rest, g, k, c, p, h => by
    rw [splitAtGen_ret] at h
    cases q : splitAtGen fs with
    | none => rw [q] at h; cases h
    | some x =>
      obtain ⟨pre', ⟨g', k', c', p'⟩, rest'⟩ := x
      rw [q] at h
      cases h
      obtain ⟨⟨l, h1⟩, h2⟩ := split_mem q
      exact ⟨⟨l, List.mem_cons_of_mem _ h1⟩, fun F hF => List.mem_cons_of_mem _ (h2 F hF)⟩
/-- a run that is broken off has no generator's frame among its own -/
theorem susp_none {M : Model} {Γ : Ctx} {p : Pos} {t : Sem PySem.Fin} {fs : List Frame} {s s' : Shared} {e : End} (h : Runs M Γ p t fs s e s') :
    ∀ v g l k c p fs', e = .susp v g l k c p fs' → splitAtGen fs' = none := by
  induction h <;> intro v g l k c p fs' he <;> first
    | (cases he; done)
    | (cases he; rfl)
    | (rename_i ih; exact ih v g l k c p fs' he)
    | (rename_i ih1 ih2; exact ih2 v g l k c p fs' he)
    | (cases he
       rename_i ih
       rw [splitAtGen_append_none _ (ih _ _ _ _ _ _ _ rfl)]
       first | rfl | (rename_i hs _ _; rw [hs]; rfl) | (rename_i hs _; rw [hs]; rfl))
    | skip
theorem Calm.lt {α : Rests} {s : Shared} (C : Calm α s) {i : Nat} (h : s.gens.size ≤ i) : α i = none := by
  cases q : α i with
  | none => rfl
  | some k =>
    have := (Array.getElem?_eq_some_iff.mp (C.at_ i k q)).1
    omega
theorem Calm.set {α : Rests} {s : Shared} (C : Calm α s) {i : Nat} {x : GenState} (hi : α i = none) (hx : ∀ k l c p fs cl, x = .suspended k l c p fs cl → splitAtGen fs = none) : Calm α (s.setGen i x) := by
  refine ⟨fun j z hj => ?_, fun j k l c p fs cl hj e => ?_⟩
  · have hne : i ≠ j := fun y => by rw [← y, hi] at hj; cases hj
    show (s.gens.setIfInBounds i x)[j]? = _
    rw [Array.getElem?_setIfInBounds_ne hne]; exact C.at_ j z hj
  · have e' : (s.gens.setIfInBounds i x)[j]? = some (.suspended k l c p fs cl) := e
    by_cases hne : i = j
    · subst hne
      rw [Array.getElem?_setIfInBounds] at e'
      rw [if_pos rfl] at e'
      by_cases hl : i < s.gens.size
      · rw [if_pos hl] at e'
        exact hx _ _ _ _ _ _ (Option.some.inj e')
      · rw [if_neg hl] at e'; cases e'
    · rw [Array.getElem?_setIfInBounds_ne hne] at e'
      exact C.other j k l c p fs cl hj e'
theorem Calm.same {α : Rests} {s s' : Shared} (C : Calm α s) (h : s'.gens = s.gens) : Calm α s' := ⟨by rw [h]; exact C.at_, by rw [h]; exact C.other⟩
theorem Calm.push {α : Rests} {s s' : Shared} {c : Code} (C : Calm α s) (h : s'.gens = s.gens.push (.fresh c)) : Calm α s' := by
  refine ⟨fun i z hi => ?_, fun i k l c' p fs cl hi e => ?_⟩
  · have e := C.at_ i z hi
    have hl := (Array.getElem?_eq_some_iff.mp e).1
    rw [h, Array.getElem?_push, if_neg (Nat.ne_of_lt hl)]; exact e
  · rw [h, Array.getElem?_push] at e
    by_cases hz : i = s.gens.size
    · rw [if_pos hz] at e; cases e
    · rw [if_neg hz] at e
      exact C.other i k l c' p fs cl hi e
theorem Calm.un {α : Rests} {s : Shared} (C : Calm α s) {i : Nat} {x : GenState} (e : s.gens[i]? = some x) (hx : ∀ k l c p fs cl, x ≠ .suspended k l c p fs cl) : α i = none := by
  cases q : α i with
  | none => rfl
  | some k =>
    have e' := C.at_ i k q
    rw [e] at e'
    exact (hx _ _ _ _ _ _ (Option.some.inj e')).elim
theorem st_gen {e : End} {M : Model} {Γ : Ctx} {p : Pos} {t : Sem PySem.Fin} {fs : List Frame} {s s' : Shared} (h : Runs M Γ p t fs s e s') : ∀ k l c p fs cl, e.genState = .suspended k l c p fs cl → splitAtGen fs = none := by
  intro k l c p fs cl he
  cases e with
  | ret r => cases he
  | susp v g l' k' c' p' fs' => cases he; exact susp_none h _ _ _ _ _ _ _ rfl
/-- THE FRAME RULE OF SLEEPING GENERATORS -/
theorem runs_sleep {M : Model} {α : Rests} {Γ : Ctx} {p : Pos} {t : Sem PySem.Fin} {fs : List Frame} {s s' : Shared} {e : End} (h : Runs M Γ p t fs s e s') :
    Calm α s → Fine α fs → Calm α s' ∧ Runs M Γ p t fs (put α s) e (put α s') := by
  induction h with
  | done => exact fun C _ => ⟨C, .done⟩
  | raise => exact fun C _ => ⟨C, .raise⟩
  | again hq _ ih => exact fun C F => ⟨(ih C F).1, .again hq (ih C F).2⟩
  | rule _ ih => exact fun C F => ⟨(ih C F).1, .rule (ih C F).2⟩
  | «at» _ ih => exact fun C F => ⟨(ih C F).1, .at (ih C F).2⟩
  | load ho _ ih => exact fun C F => ⟨(ih C F).1, .load ho (ih C F).2⟩
  | update ho _ ih => exact fun C F => let a := ih (C.same rfl) F; ⟨a.1, .update ho a.2⟩
  | loadIfAlive _ ih => exact fun C F => ⟨(ih C F).1, .loadIfAlive (ih C F).2⟩
  | point _ ih => exact fun C F => ⟨(ih C F).1, .point (ih C F).2⟩
  | alloc _ ih => exact fun C F => let a := ih (C.same rfl) F; ⟨a.1, .alloc a.2⟩
  | fresh _ ih => exact fun C F => let a := ih (C.same rfl) F; ⟨a.1, .fresh a.2⟩
  | ask _ ih => exact fun C F => ⟨(ih C F).1, .ask (ih C F).2⟩
  | choose hn _ ih => exact fun C F => let a := ih (C.same rfl) F; ⟨a.1, .choose hn a.2⟩
  | os _ ih => exact fun C F => let a := ih (C.same rfl) F; ⟨a.1, .os a.2⟩
  | handled _ ih => exact fun C F => ⟨(ih C F).1, .handled (ih C F).2⟩
  | @genState g st Γ p k' s e s' hst _ ih =>
    intro C F
    refine ⟨(ih C F).1, .genState (st := asleep (α g) st) (by rw [put_get, hst]; rfl) ?_⟩
    rw [seen_asleep]; exact (ih C F).2
  | stack _ ih => exact fun C F => ⟨(ih C F).1, .stack (ih C F).2⟩
  | thread _ ih => exact fun C F => ⟨(ih C F).1, .thread (ih C F).2⟩
  | newGen _ ih =>
    intro C F
    have a := ih (C.push rfl) F
    refine ⟨a.1, .newGen ?_⟩
    have a2 := a.2
    rw [put_push] at a2
    rw [put_size]
    exact a2
  | call _ _ ih1 ih2 => exact fun C F => let a := ih1 C .nil; let b := ih2 a.1 .nil; ⟨b.1, .call a.2 b.2⟩
  | callSusp _ ih => exact fun C F => let a := ih C .nil; ⟨a.1, .callSusp a.2⟩
  | yield => exact fun C _ => ⟨C, .yield⟩
  | resumeFresh hst hr hq _ ih1 ih2 =>
    intro C F
    have hi := C.un hst fun _ _ _ _ _ _ z => by cases z
    have a := ih1 (C.set hi fun _ _ _ _ _ _ z => by cases z) .nil
    have b := ih2 (a.1.set hi (st_gen hr)) .nil
    have a2 := a.2
    have b2 := b.2
    rw [put_set rfl] at a2
    rw [put_set (by rw [hi]; exact asleep_none _)] at b2
    exact ⟨b.1, .resumeFresh (by rw [put_get, hst]; rfl) a2 hq b2⟩
  | @resumeSuspended Γ p g r l k' s k₀ l₀ c₀ p₀ fs cl e₁ s₁ e s' hst hr hq _ ih1 ih2 =>
    intro C F
    have hi : α g = none := by
      cases q : α g with
      | none => rfl
      | some kk =>
        have e' := C.at_ g kk q
        rw [hst] at e'
        cases e'
        exact (no_run hr _ rfl).elim
    have a := ih1 (C.set hi fun _ _ _ _ _ _ z => by cases z) (.of_none (C.other _ _ _ _ _ _ _ hi hst))
    have b := ih2 (a.1.set hi (st_gen hr)) .nil
    have a2 := a.2
    have b2 := b.2
    rw [put_set rfl] at a2
    rw [put_set (by rw [hi]; exact asleep_none _)] at b2
    exact ⟨b.1, .resumeSuspended (by rw [put_get, hst, hi]; rfl) a2 hq b2⟩
  | resumeJustStarted hst hv _ ih => exact fun C F => ⟨(ih C F).1, .resumeJustStarted (by rw [put_get, hst]; rfl) hv (ih C F).2⟩
  | resumeThrowFresh hst _ ih =>
    intro C F
    have hi := C.un hst fun _ _ _ _ _ _ z => by cases z
    have a := ih (C.set hi fun _ _ _ _ _ _ z => by cases z) .nil
    have a2 := a.2
    rw [put_set rfl] at a2
    exact ⟨a.1, .resumeThrowFresh (by rw [put_get, hst]; rfl) a2⟩
  | resumeRunning hst _ ih => exact fun C F => ⟨(ih C F).1, .resumeRunning (by rw [put_get, hst]; rfl) (ih C F).2⟩
  | resumeFinished hst _ ih => exact fun C F => ⟨(ih C F).1, .resumeFinished (by rw [put_get, hst]; rfl) (ih C F).2⟩
  | segRet _ _ ih1 ih2 =>
    intro C F
    have a := ih1 C .nil
    have b := ih2 a.1 fun _ _ _ _ _ hm => F _ _ _ _ _ (List.mem_cons_of_mem _ hm)
    exact ⟨b.1, .segRet a.2 b.2⟩
  | segGen _ _ ih1 ih2 =>
    intro C F
    have hi := F _ _ _ _ _ List.mem_cons_self
    have a := ih1 C .nil
    have b := ih2 (a.1.set hi fun _ _ _ _ _ _ z => by cases z) fun _ _ _ _ _ hm => F _ _ _ _ _ (List.mem_cons_of_mem _ hm)
    have b2 := b.2
    rw [put_set rfl] at b2
    exact ⟨b.1, .segGen a.2 b2⟩
  | segSuspOut hs _ ih => exact fun C F => let a := ih C .nil; ⟨a.1, .segSuspOut hs a.2⟩
  | segSuspGen hs hr hq _ ih1 ih2 =>
    intro C F
    obtain ⟨⟨l, hm⟩, hrest⟩ := split_mem hs
    have hi := F _ _ _ _ _ hm
    have a := ih1 C .nil
    have b := ih2 (a.1.set hi fun _ _ _ _ _ _ z => by
      cases z
      rw [splitAtGen_append_none _ (susp_none hr _ _ _ _ _ _ _ rfl), splitAtGen_pre hs]; rfl) fun _ _ _ _ _ hm => F _ _ _ _ _ (hrest _ hm)
    have b2 := b.2
    rw [put_set (by rw [hi]; exact asleep_none _)] at b2
    exact ⟨b.1, .segSuspGen hs a.2 hq b2⟩
theorem wakes_sleep {M : Model} {α : Rests} {Γ : Ctx} {p : Pos} {g : Nat} {r : Resume} {s s' : Shared} {res : GenResult} (C : Calm α s) (h : Wakes M Γ p g r s res s') : Calm α s' ∧ Wakes M Γ p g r (put α s) res (put α s') := by
  unfold Wakes at h
  cases hst : s.gens[g]? with
  | none => rw [hst] at h; exact h.elim
  | some x =>
    rw [hst] at h
    have hp : (put α s).gens[g]? = some (asleep (α g) x) := by rw [put_get, hst]; rfl
    unfold Wakes
    rw [hp]
    cases x with
    | fresh c =>
      have hi := C.un hst fun _ _ _ _ _ _ z => by cases z
      have go : ∀ {e₁ : End} {s₁ : Shared}, Runs M (Γ.wake c p) p (M.den c) [] (s.setGen g .running) e₁ s₁ → e₁.quiet = true → res = e₁.result → s' = s₁.setGen g e₁.genState →
          Calm α s' ∧ ∃ e₁ s₁, Runs M (Γ.wake c p) p (M.den c) [] ((put α s).setGen g .running) e₁ s₁ ∧ e₁.quiet = true ∧ res = e₁.result ∧ put α s' = s₁.setGen g e₁.genState := fun {e₁ s₁} hr hq h1 h2 => by
        have a := runs_sleep hr (C.set hi fun _ _ _ _ _ _ z => by cases z) .nil
        have a2 := a.2
        rw [put_set rfl] at a2
        exact ⟨h2 ▸ a.1.set hi (st_gen hr), e₁, put α s₁, a2, hq, h1, by rw [h2, put_set (by rw [hi]; exact asleep_none _)]⟩
      rcases r with v | x
      · have key : ∀ v : Value, v ≠ .none → (res = .justStarted ∧ s' = s) → Calm α s' ∧ (res = .justStarted ∧ put α s' = put α s) := fun v _ h => ⟨h.2 ▸ C, h.1, by rw [h.2]⟩
        match v, h with
        | .none, h =>
          obtain ⟨e₁, s₁, hr, hq, h1, h2⟩ := h
          exact go hr hq h1 h2
        | .bool _, h => exact key (.bool true) (fun z => by cases z) h
        | .int .., h => exact key (.bool true) (fun z => by cases z) h
        | .float .., h => exact key (.bool true) (fun z => by cases z) h
        | .str .., h => exact key (.bool true) (fun z => by cases z) h
        | .ref .., h => exact key (.bool true) (fun z => by cases z) h
        | .type .., h => exact key (.bool true) (fun z => by cases z) h
        | .builtin .., h => exact key (.bool true) (fun z => by cases z) h
        | .ellipsis, h => exact key (.bool true) (fun z => by cases z) h
        | .notImplemented, h => exact key (.bool true) (fun z => by cases z) h
        | .bytes .., h => exact key (.bool true) (fun z => by cases z) h
      · obtain ⟨h1, h2⟩ := h
        refine ⟨h2 ▸ C.set hi (fun _ _ _ _ _ _ z => by cases z), h1, ?_⟩
        rw [h2, put_set rfl]
    | suspended k₀ l₀ c₀ p₀ fs cl =>
      obtain ⟨e₁, s₁, hr, hq, h1, h2⟩ := h
      have hi : α g = none := by
        cases q : α g with
        | none => rfl
        | some kk =>
          have e' := C.at_ g kk q
          rw [hst] at e'
          cases e'
          exact (no_run hr _ rfl).elim
      have a := runs_sleep hr (C.set hi fun _ _ _ _ _ _ z => by cases z) (.of_none (C.other _ _ _ _ _ _ _ hi hst))
      have a2 := a.2
      rw [put_set rfl] at a2
      refine ⟨h2 ▸ a.1.set hi (st_gen hr), ?_⟩
      rw [hi]
      exact ⟨e₁, put α s₁, a2, hq, h1, by rw [h2, put_set (by rw [hi]; exact asleep_none _)]⟩
    | running => exact ⟨h.2 ▸ C, h.1, by rw [h.2]⟩
    | finished => exact ⟨h.2 ▸ C, h.1, by rw [h.2]⟩
def Up (α : Rests) (s' : Shared) (P : Shared → Prop) : Prop := ∃ s1, s' = put α s1 ∧ Calm α s1 ∧ P s1
theorem wp_sleep {β : Type} (M : Model) (Γ : Ctx) (α : Rests) (t : Sem β) : ∀ (Q : β → Pos → Shared → Prop) (E : Value → Pos → Shared → Prop) (p : Pos) (s : Shared), Calm α s → wp M Γ t Q E p s →
    wp M Γ t (fun a p' s' => Up α s' (Q a p')) (fun e p' s' => Up α s' (E e p')) p (put α s) := by
  induction t with
  | pure a => intro Q E p s C h; exact ⟨s, rfl, C, h⟩
  | raise e => intro Q E p s C h; exact ⟨s, rfl, C, h⟩
  | unsupported _ => intro Q E p s _ h; exact h
  | finish _ => intro Q E p s _ h; exact h
  | rule _ k ih => intro Q E p s C h; exact ih () Q E p s C h
  | «at» p' k ih => intro Q E p s C h; exact ih () Q E p' s C h
  | load a _ k ih => intro Q E p s C h; obtain ⟨o, ho, h⟩ := h; exact ⟨o, ho, ih o Q E p s C h⟩
  | update a _ f k ih => intro Q E p s C h; exact ⟨h.1, ih () Q E p { s with heap := s.heap.update a f } (C.same rfl) h.2⟩
  | loadIfAlive a k ih => intro Q E p s C h; exact ih _ Q E p s C h
  | point _ k ih => intro Q E p s C h; exact ih () Q E p s C h
  | register _ _ => intro Q E p s _ h; exact h
  | alloc o k ih => intro Q E p s C h; exact ih _ Q E p { s with heap := s.heap.push o } (C.same rfl) h
  | fresh k ih => intro Q E p s C h; exact ih _ Q E p { s with toks := s.toks + 1 } (C.same rfl) h
  | ask k ih => intro Q E p s C h; exact ih _ Q E p s C h
  | choose src m k ih => intro Q E p s C h; exact ⟨h.1, ih _ Q E p { s with drawn := s.drawn.bump src } (C.same rfl) h.2⟩
  | os q _ k ih => intro Q E p s C h; exact ih _ Q E p { s with os := (Os.step s.os q).1 } (C.same rfl) h
  | call c hd _ _ k ih =>
    intro Q E p s C h
    obtain ⟨r, s', hr, h⟩ := h
    have a := runs_sleep hr C .nil
    exact ⟨r, put α s', a.2, ih r Q E p s' a.1 h⟩
  | handled own k ih => intro Q E p s C h; exact ih _ Q E p s C h
  | genState g k ih =>
    intro Q E p s C h
    obtain ⟨st, hs, h⟩ := h
    exact ⟨asleep (α g) st, by rw [put_get, hs]; rfl, by rw [seen_asleep]; exact ih _ Q E p s C h⟩
  | newGen c k ih =>
    intro Q E p s C h
    have a := ih _ Q E p { s with gens := s.gens.push (.fresh c) } (C.push rfl) h
    rw [put_push] at a
    show wp M Γ (k (put α s).gens.size) _ _ p _
    rw [put_size]
    exact a
  | resume g r _ k ih =>
    intro Q E p s C h
    obtain ⟨res, s', hw, h⟩ := h
    have a := wakes_sleep C hw
    exact ⟨res, put α s', a.2, ih res Q E p s' a.1 h⟩
  | yield _ _ _ _ => intro Q E p s _ h; exact h
  | stack k ih => intro Q E p s C h; exact ih _ Q E p s C h
  | fork _ _ => intro Q E p s _ h; exact h
  | thread k ih => intro Q E p s C h; exact ih _ Q E p s C h
  | await _ _ _ _ _ => intro Q E p s _ h; exact h
theorem wpAny_sleep {β : Type} {M : Model} {A : Around} {α : Rests} {t : Sem β} {Q : β → Shared → Prop} {E : Value → Shared → Prop} {s : Shared} (C : Calm α s) (h : wpAny M A t Q E s) :
    wpAny M A t (fun a s' => Up α s' (Q a)) (fun e s' => Up α s' (E e)) (put α s) := fun Γ p hΓ => wp_sleep M Γ α t _ _ p s C (h Γ p hΓ)
/-- the sleepers of a table -/
def restsOf (s : Shared) : Rests := fun i => match s.gens[i]? with
  | some (.suspended k l c p fs cl) => some ⟨k, l, c, p, fs, cl⟩
  | _ => none
/-- the table with all rests out of reach -/
def hush (s : Shared) : Shared := { s with gens := s.gens.map hushed }
theorem hush_get (s : Shared) (i : Nat) : (hush s).gens[i]? = (s.gens[i]?).map hushed := by
  show (s.gens.map _)[i]? = _
  rw [Array.getElem?_map]
theorem calm_hush (s : Shared) : Calm (restsOf s) (hush s) := by
  refine ⟨fun i z hi => ?_, fun i k l c p fs cl hi e => ?_⟩
  · unfold restsOf at hi
    split at hi
    · rename_i k l c p fs cl e
      cases hi
      rw [hush_get, e]; rfl
    · cases hi
  · rw [hush_get] at e
    cases q : s.gens[i]? with
    | none => rw [q] at e; cases e
    | some x =>
      rw [q] at e
      cases x with
      | suspended k' l' c' p' fs' cl' =>
        unfold restsOf at hi
        rw [q] at hi
        cases hi
      | _ => cases e
theorem put_hush (s : Shared) : put (restsOf s) (hush s) = s := by
  obtain ⟨hp, gs, d, t, o⟩ := s
  have e : (gs.map hushed).mapIdx (fun i x => asleep (restsOf ⟨hp, gs, d, t, o⟩ i) x) = gs := by
    apply Array.ext_getElem?
    intro i
    rw [Array.getElem?_mapIdx, Array.getElem?_map]
    cases q : gs[i]? with
    | none => rfl
    | some x =>
      have r : restsOf ⟨hp, gs, d, t, o⟩ i = match some x with | some (.suspended k l c p fs cl) => some ⟨k, l, c, p, fs, cl⟩ | _ => none := by
        unfold restsOf; rw [← q]
      rw [r]
      cases x <;> rfl
  show Shared.mk hp ((gs.map hushed).mapIdx _) d t o = _
  rw [e]
/-- a sleeper that was there is there as it was -/
theorem up_at {s s' : Shared} {P : Shared → Prop} {g : Nat} {z : Slp} (h : Up (restsOf s) s' P) (e : s.gens[g]? = some z.st) : s'.gens[g]? = some z.st := by
  obtain ⟨s1, rfl, C, _⟩ := h
  have hr : restsOf s g = some z := by unfold restsOf; rw [e]; rfl
  rw [put_get, C.at_ g z hr, hr]; rfl
theorem bare_hush {s : Shared} (h : PyProof.Rows.AllBare s.gens) : PyProof.Rows.AllBare (hush s).gens := fun y hy => by
  obtain ⟨x, hx, e⟩ := Array.mem_map.mp (show y ∈ s.gens.map hushed from hy)
  rw [← e]
  have := h x hx
  cases x <;> exact this
theorem bare_put {s : Shared} {α : Rests} (h : PyProof.Rows.AllBare s.gens) : PyProof.Rows.AllBare (put α s).gens := fun y hy => by
  obtain ⟨i, hi, e⟩ := Array.mem_iff_getElem.mp hy
  have q : (put α s).gens[i]? = some y := by rw [Array.getElem?_eq_getElem hi, e]
  rw [put_get] at q
  cases r : s.gens[i]? with
  | none => rw [r] at q; cases q
  | some x =>
    rw [r] at q
    cases q
    have := h x (Array.mem_of_getElem? r)
    cases x <;> exact this
end Gw
/-! text Gw2 -/
set_option maxHeartbeats 1000000
/-! Gw2: one leg of a generator: from its wake to its next item or its end. -/
namespace Gw
open PySem
open Sem (wp)
/-- how a leg ends -/
def LegEnd (R : Result → Shared → Prop) (Y : Value → GenState → Shared → Prop) (e : End) (s' : Shared) : Prop :=
  match e with
  | .ret r => R r s'
  | .susp v g l k c p fs => (End.susp v g l k c p fs).quiet = true ∧ Y v (End.susp v g l k c p fs).genState s'
def Leg (M : Model) (A : Around) (R : Result → Shared → Prop) (Y : Value → GenState → Shared → Prop) (c : Code) (t : Sem PySem.Fin) (fs : List Frame) (s : Shared) : Prop :=
  ∀ Γ p, Γ.code = c → Γ.Woken A → ∃ e s', Runs M Γ p t fs s e s' ∧ LegEnd R Y e s'
def Rises (M : Model) (A : Around) (R : Result → Shared → Prop) (Y : Value → GenState → Shared → Prop) (gs : GenState) (r : Resume) (s : Shared) : Prop :=
  match gs with
  | .fresh c => r = .send .none ∧ Leg M A R Y c (M.den c) [] s
  | .suspended k _ c _ fs _ => Leg M A R Y c (k r) fs s
  | _ => False
section
variable {M : Model} {A : Around} {R : Result → Shared → Prop} {Y : Value → GenState → Shared → Prop} {c : Code} {fs : List Frame} {s : Shared}
theorem leg_wrap {α : Type} {m : Sem α} {K : α → Sem PySem.Fin} {J : Value → Sem PySem.Fin} {gd : Bool → Bool} {lv : List Value → List Value}
    (h : wpAny M (A.over c fs) m (fun a s' => Leg M A R Y c (K a) fs s') (fun x s' => Leg M A R Y c (J x) fs s') s) : Leg M A R Y c (m.wrap K J gd lv) fs s := by
  rintro Γ p rfl hw
  exact runs_wrap_of_wp K J gd lv m (h (Γ.over fs) p (hw.over fs)) (fun a q s' z => z Γ q rfl hw) fun x q s' z => z Γ q rfl hw
theorem leg_bindw {α β : Type} {m : Sem α} {f : α → Sem β} {K : β → Sem PySem.Fin} {J : Value → Sem PySem.Fin} {gd : Bool → Bool} {lv : List Value → List Value}
    (h : wpAny M (A.over c fs) m (fun a s' => Leg M A R Y c ((f a).wrap K J gd lv) fs s') (fun x s' => Leg M A R Y c (J x) fs s') s) : Leg M A R Y c ((m >>= f).wrap K J gd lv) fs s := by
  rw [Sem.bind_eq_wrap' m f, Sem.wrap_wrap]
  exact leg_wrap h
theorem leg_at {p' : Pos} {k : Unit → Sem PySem.Fin} (h : Leg M A R Y c (k ()) fs s) : Leg M A R Y c (.at p' k) fs s :=
  leg_wrap (m := standAt p') (K := k) (J := .raise) (gd := id) (lv := id) (wpAny_standAt h)
theorem leg_point {l : List Value} {k : Unit → Sem PySem.Fin} (h : Leg M A R Y c (k ()) fs s) : Leg M A R Y c (.point l k) fs s :=
  leg_wrap (m := point) (K := k) (J := .raise) (gd := id) (lv := fun _ => l) (wpAny_point h)
theorem leg_call {c' : Code} {hd : Option Value} {g : Bool} {l : List Value} {k : Result → Sem PySem.Fin} (h : ∀ p, Leg M A R Y c' (M.den c') (.ret k hd g l c p [] :: fs) s) : Leg M A R Y c (.call c' hd g l k) fs s := by
  rintro Γ p rfl hw
  obtain ⟨e, s', hr, he⟩ := h p (Γ.goto c') p rfl (hw.goto c')
  exact ⟨e, s', runs_call_seg hr, he⟩
theorem leg_leaf {k : Result → Sem PySem.Fin} {hd : Option Value} {g : Bool} {l kp : List Value} {c1 : Code} {p1 : Pos} (r : Result) (h : Leg M A R Y c1 (k r) fs s) : Leg M A R Y c (leafOf r) (.ret k hd g l c1 p1 kp :: fs) s := by
  rintro Γ p rfl hw
  obtain ⟨e, s', hr, he⟩ := h (Γ.goto c1) p1 rfl (hw.goto c1)
  exact ⟨e, s', Runs.pop r hr, he⟩
theorem leg_again {c' : Code} (hq : c'.quiet = true) (h : Leg M A R Y c' (M.den c') fs s) : Leg M A R Y c (.pure (.again c')) fs s := by
  rintro Γ p rfl hw
  obtain ⟨e, s', hr, he⟩ := h (Γ.goto c') p rfl (hw.goto c')
  exact ⟨e, s', Runs.head (c₁ := c') (fun _ _ z => .again hq z) hr, he⟩
theorem leg_end (r : Result) (h : R r s) : Leg M A R Y c (leafOf r) [] s := by
  rintro Γ p rfl _
  exact ⟨.ret r, s, Runs.leaf r, h⟩
theorem leg_yield {v : Value} {g : Bool} {l : List Value} {k : Resume → Sem PySem.Fin} (hs : splitAtGen fs = none) (hg : g = false) (hf : fs.any Frame.guarded = false) (h : ∀ z : Slp, z.k = k → z.c = c → z.fs = fs → z.cl = false → Y v z.st s) :
    Leg M A R Y c (.yield v g l k) fs s := by
  rintro Γ p rfl _
  refine ⟨_, s, Runs.yield' fs hs, by simp [End.quiet, hg, hf], ?_⟩
  exact h ⟨k, l, Γ.code, p, fs, g || fs.any Frame.guarded⟩ rfl rfl rfl (by rw [hg, hf]; rfl)
variable {env : Env} {K : Flow → Sem PySem.Fin} {J : Value → Sem PySem.Fin} {gd : Bool → Bool} {lv : List Value → List Value}
theorem leg_nil (h : Leg M A R Y c (K .next) fs s) : Leg M A R Y c ((execs [] env).wrap K J gd lv) fs s := h
theorem leg_cons {st : Stmt} {rest : List Stmt} (h : Leg M A R Y c ((exec st env).wrap (fun f => match f with | .next => (execs rest env).wrap K J gd lv | f => K f) J gd lv) fs s) : Leg M A R Y c ((execs (st :: rest) env).wrap K J gd lv) fs s := by
  rw [execs_cons_wrap]; exact h
/-- a statement that hands out an item -/
theorem leg_yieldS {e : Expr} {ypos pos : Pos} (hs : splitAtGen fs = none) (hgd : gd false = false) (hf : fs.any Frame.guarded = false)
    (h : wpAny M (A.over c fs) (eval e env) (fun v s' => ∀ z : Slp, z.cl = false → (∀ (R' : Result → Shared → Prop) (Y' : Value → GenState → Shared → Prop) (s'' : Shared), Leg M A R' Y' c (K .next) fs s'' → Rises M A R' Y' z.st (.send .none) s'') → Y v z.st s')
      (fun x s' => Leg M A R Y c (J x) fs s') s) (hco : env.scope.isCoroutine = false) (hi : interactive env = false) :
    Leg M A R Y c ((exec (.Expr (.Yield (some e) ypos) pos) env).wrap K J gd lv) fs s := by
  rw [exec_Expr env _ pos hi rfl]
  show Leg M A R Y c (.at pos fun _ => ((eval e env >>= fun v => (standAt ypos >>= fun _ => yieldOut env v)) >>= fun x => dropValue (.Yield (some e) ypos) pos x).wrap K J gd lv) fs s
  have hy : ∀ v, yieldOut env v = yieldValue v := fun v => by simp only [yieldOut, hco, Bool.false_eq_true, if_false]
  simp only [hy]
  refine leg_at ?_
  rw [Sem.bind_eq_wrap', Sem.bind_eq_wrap', Sem.wrap_wrap, Sem.wrap_wrap]
  refine leg_wrap (wpAny_mono h (fun v s' h' => ?_) fun _ _ x => x)
  refine leg_at (leg_yield hs hgd hf fun z hk hc hfs hcl => h' z hcl fun R' Y' s'' hl => ?_)
  show Leg M A R' Y' z.c (z.k (.send .none)) z.fs s''
  rw [hk, hc, hfs]
  exact hl
/-- a for loop -/
theorem leg_For {tg iter : Expr} {body : List Stmt} {pos : Pos} (hx : ∀ x, foldedSetIterable iter env x = pure x)
    (h : wpAny M (A.over c fs) (eval iter env) (fun v s1 => wpAny M (A.over c fs) (pyIter v) (fun it s2 => ∀ (J' : Value → Sem Flow) (p : Pos), Leg M A R Y (.forLoop tg it body [] env) (M.den (.forLoop tg it body [] env))
        (.ret (fun r => (match r with | .ok f => (.pure f : Sem Flow) | .error e => J' e).wrap K J gd lv) none (gd false) (lv []) c p [] :: fs) s2) (fun x s' => Leg M A R Y c (J x) fs s') s1) (fun x s' => Leg M A R Y c (J x) fs s') s) :
    Leg M A R Y c ((exec (.For tg iter body [] pos) env).wrap K J gd lv) fs s := by
  rw [exec_For]
  show Leg M A R Y c (.at pos fun _ => ((eval iter env >>= fun x => (foldedSetIterable iter env x >>= fun x => (standAt iter.pos >>= fun _ => (holding [x] (pyIter x) >>= fun it => runOwn (.forLoop tg it body [] env) env))))).wrap K J gd lv) fs s
  refine leg_at (leg_bindw (wpAny_mono h (fun v s1 h1 => ?_) fun _ _ x => x))
  rw [hx v]
  show Leg M A R Y c (.at iter.pos fun _ => (holding [v] (pyIter v) >>= fun it => runOwn (.forLoop tg it body [] env) env).wrap K J gd lv) fs s1
  refine leg_at (leg_bindw (wpAny_holding (wpAny_mono h1 (fun it s2 h2 => ?_) fun _ _ x => x)))
  unfold runOwn
  refine leg_call fun p => ?_
  have z := h2 (fun e => (Sem.raise e : Sem Flow).onRaise (L2.cameBack env)) p
  have e : (fun r : Result => (match r with | .ok f => (.pure f : Sem Flow) | .error e => (Sem.raise e : Sem Flow).onRaise (L2.cameBack env)).wrap K J gd lv) = fun r : Result => ((match r with | .ok f => (.pure f : Sem Flow) | .error e => .raise e).onRaise (L2.cameBack env)).wrap K J gd lv := by
    funext r
    cases r <;> rfl
  rw [e] at z
  exact z
end
end Gw
/-! text Gw3 -/
set_option maxHeartbeats 1000000
/-! Gw3: a loop's turn in a leg; a wake; next. -/
namespace Gw
open PySem PyProof.Rows L2
open Sem (wp)
section
variable {P : Program} {w : World} {A : Around} {R : Result → Shared → Prop} {Y : Value → GenState → Shared → Prop} {fs : List Frame} {s : Shared} {env : Env} {tg : Expr} {it : Value} {body : List Stmt}
abbrev loopC (tg : Expr) (it : Value) (body : List Stmt) (env : Env) : Code := .forLoop tg it body [] env
def bodyK (c : Code) : Flow → Sem PySem.Fin := fun f => match f with
  | .next | .cont => .pure (.again c)
  | .brk => .pure (.done .next)
  | .ret v => .pure (.done (.ret v))
theorem leg_turn
    (h : wpAny (model P w) (A.over (loopC tg it body env) fs) (pyNext it) (fun r s1 => match r with
      | none => Leg (model P w) A R Y (.block [] env) (.pure (.done .next)) fs s1
      | some v => wpAny (model P w) (A.over (loopC tg it body env) fs) (letOwnedTupleGo tg it v) (fun _ s2 => wpAny (model P w) (A.over (loopC tg it body env) fs) (assign tg env v) (fun _ s3 =>
          ∀ (J : Value → Sem PySem.Fin) (gd : Bool → Bool) (lv : List Value → List Value), gd false = false → Leg (model P w) A R Y (loopC tg it body env) ((execs body env).wrap (bodyK (loopC tg it body env)) J gd lv) fs s3) (fun _ _ => False) s2) (fun _ _ => False) s1) (fun _ _ => False) s) :
    Leg (model P w) A R Y (loopC tg it body env) ((model P w).den (loopC tg it body env)) fs s := by
  show Leg (model P w) A R Y (loopC tg it body env) ((forTurn tg it body [] env).onRaise (fun x => do noteFrame x env; theTreesLotGoes x)) fs s
  rw [Sem.onRaise_eq_wrap]
  unfold forTurn
  refine leg_bindw (wpAny_standAt ?_)
  refine leg_bindw (wpAny_onRaise (wpAny_mono h (fun r s1 h1 => ?_) fun _ _ z => z.elim))
  cases r with
  | none => exact leg_again rfl h1
  | some v =>
    refine leg_bindw (wpAny_mono h1 (fun _ s2 h2 => ?_) fun _ _ z => z.elim)
    refine leg_bindw (wpAny_mono h2 (fun _ s3 h3 => ?_) fun _ _ z => z.elim)
    rw [Sem.bind_eq_wrap', Sem.wrap_wrap]
    rw [Sem.wrap_congr (execs body env) _ _ (K' := bodyK (loopC tg it body env)) (fun f => by cases f <;> rfl) (fun e => rfl)]
    exact h3 _ _ _ rfl
end
section
variable {M : Model} {A : Around} {R : Result → Shared → Prop} {Y : Value → GenState → Shared → Prop} {s : Shared}
theorem wp_rise {E : Value → Shared → Prop} {g : Nat} {gs : GenState} {r : Resume} {l : List Value} {α : Type} {k : GenResult → Sem α} {Q : α → Shared → Prop} (hg : s.gens[g]? = some gs) (hgo : Rises M A R Y gs r (s.setGen g .running))
    (hR : ∀ x s1, R x s1 → wpAny M A (k (End.ret x).result) Q E (s1.setGen g .finished))
    (hY : ∀ v s1 (z : Slp), z.cl = false → Y v z.st s1 → wpAny M A (k (.yielded v)) Q E (s1.setGen g z.st)) : wpAny M A (.resume g r l k) Q E s := by
  intro Γ p hΓ
  rw [Sem.wp_resume]
  have back : ∀ e1 s1, LegEnd R Y e1 s1 → e1.quiet = true ∧ wp M Γ (k e1.result) (fun a _ s' => Q a s') (fun e _ s' => E e s') p (s1.setGen g e1.genState) := by
    intro e1 s1 he
    cases e1 with
    | ret x => exact ⟨rfl, hR x s1 he Γ p hΓ⟩
    | susp v g0 l0 k0 c0 p0 fs0 =>
      obtain ⟨hq, hy⟩ := he
      refine ⟨hq, hY v s1 ⟨k0, l0, c0, p0, fs0, g0 || fs0.any Frame.guarded⟩ ?_ hy Γ p hΓ⟩
      simpa [End.quiet] using hq
  cases gs with
  | fresh c =>
    obtain ⟨rfl, hl⟩ := hgo
    obtain ⟨e1, s1, hr, he⟩ := hl (Γ.wake c p) p rfl (hΓ.wake c p)
    obtain ⟨hq, hw⟩ := back e1 s1 he
    refine ⟨_, _, ?_, hw⟩
    unfold Wakes; rw [hg]; exact ⟨e1, s1, hr, hq, rfl, rfl⟩
  | suspended k0 l0 c0 p0 fs0 cl =>
    obtain ⟨e1, s1, hr, he⟩ := hgo (Γ.wake c0 p) p0 rfl (hΓ.wake c0 p)
    obtain ⟨hq, hw⟩ := back e1 s1 he
    refine ⟨_, _, ?_, hw⟩
    unfold Wakes; rw [hg]; exact ⟨e1, s1, hr, hq, rfl, rfl⟩
  | running => exact hgo.elim
  | finished => exact hgo.elim
end
theorem bare_set {s : Shared} {g : Nat} {x : GenState} (h : AllBare s.gens) (hx : x.bare = true) : AllBare (s.setGen g x).gens := allBare_setGen h hx
/-- next of a generator -/
theorem next_leg {P : Program} {w : World} {A : Around} {E : Value → Shared → Prop} {s : Shared} {a : Addr} {g : Nat} {gs : GenState} {F : Shared → Prop} {Y : Value → GenState → Shared → Prop} {Q : Option Value → Shared → Prop} (hh : A.handled = none)
    (hl : s.heap.NoLimit) (hroom : A.depth < recursionLimit) (hg : s.heap.IsGen a g) (hgs : s.gens[g]? = some gs)
    (hgo : Rises (model P w) A.in1 (fun r s1 => (r = .ok (.ret .none) ∨ r = .ok .next) ∧ F s1) Y gs (.send .none) (s.setGen g .running))
    (hY : ∀ v s1 (z : Slp), z.cl = false → Y v z.st s1 → Q (some v) (s1.setGen g z.st))
    (hF : ∀ s1, F s1 → ∀ h', (∀ b o, s1.heap.get? b = some o → h'.get? b = some o) → Q none { s1.setGen g .finished with heap := h' }) :
    wpAny (model P w) A (pyNext (.ref a)) Q E s := by
  unfold pyNext
  refine wpAny_bind (wpAny_attempt (wpAny_callSpecial?_slot (name := Str.ofString "__next__") hg.typeIs slot_gen_next (wpAny_call_entry slot_gen_next hg.typeIs entry_gen_next ?_ (args_gen_next _))))
  show wpAny (model P w) A.in1 (Builtin.Generator.genWake (.ref a) (.send .none)) _ _ s
  unfold Builtin.Generator.genWake
  refine wpAny_bind (wpAny_holding (wpAny_genNumber hg (wpAny_bind (wpAny_genState hgs ?_))))
  have turn : ∀ (x : Result) (s1 : Shared), ((x = .ok (.ret .none) ∨ x = .ok .next) ∧ F s1) → End.result (.ret x) = .returned .none := fun x s1 hx => by
    rcases hx.1 with q | q <;> rw [q] <;> rfl
  cases gs with
  | running => exact hgo.elim
  | finished => exact hgo.elim
  | _ =>
    refine wpAny_bind (wpAny_roomToWake hl hroom ?_)
    show wpAny (model P w) A.in1 (.resume g (.send .none) [] _) _ _ s
    refine wp_rise hgs hgo (fun x s1 hx => ?_) fun v s1 z hc hy => ?_
    · rw [turn x s1 hx]
      show wpAny (model P w) A.in1 (newExc (.type "StopIteration") [] >>= _) _ _ _
      refine wpAny_bind ?_
      simp only [newExc, newTuple]
      refine wpAny_bind (wpAny_newObj_type ?_ (by size_fits))
      refine wpAny_bind (m := firstArgMember _ _) (wpAny_of_eq (a := Value.none) (by first | rfl | (simp only [firstArgMember]; rfl)) ?_)
      refine wpAny_newObj_type ?_ (by size_fits)
      simp only [raiseNew]
      refine wpAny_bind (wpAny_bind (wpAny_handled ?_))
      have hh' : A.in1.handled = none := hh
      first | rw [hh'] | rw [hh]
      refine wpAny_throw ?_
      refine wpAny_bind (wpAny_isInstance (T := "StopIteration") (b := true) ⟨_, Heap.get?_push_size _ rfl, rfl⟩ isSubtype_stop ?_)
      exact wpAny_pure (hF s1 hx.2 _ fun b o e => Heap.get?_push_of_some _ (Heap.get?_push_of_some _ e))
    · exact wpAny_pure ⟨v, rfl, wpAny_pure (hY v s1 z hc hy)⟩
end Gw
/-! text Gw4 -/
set_option maxHeartbeats 1000000
/-! Gw4: a generator's frame from wake to wake: what it needs, what its consumer keeps. -/
namespace Gw
open PySem PyProof.Rows L2
open Sem (wp)
/-- a generator that was made: its frame, who wakes it, what it hands out -/
structure Zed where
  P : Program
  w : World
  K : PySem.W.Frag
  mg : Str → Option Value
  base : Heap
  N : List Str
  env : Env
  A : Around
  outer : List Env
  pn : List (Addr × Obj)
  most : Nat
  yl : Nat → Hp → V → Hp → Prop
  en : Nat → Hp → Hp → Prop
  wk : Hp → Hp → Prop
abbrev Zed.L (Z : Zed) : Addr := Z.env.locals
def cutH (n : Nat) (h : Heap) : Heap := { h with objs := h.objs.extract 0 n }
theorem cut_size {n : Nat} {h : Heap} (hn : n ≤ h.objs.size) : (cutH n h).objs.size = n := by
  show (h.objs.extract 0 n).size = n
  simp; omega
theorem cut_size_le {n : Nat} {h : Heap} : (cutH n h).objs.size ≤ n := by
  show (h.objs.extract 0 n).size ≤ n
  simp; omega
theorem cut_get {n : Nat} {h : Heap} {b : Addr} (hb : b < n) : (cutH n h).get? b = h.get? b := by
  have e : (h.objs.extract 0 n)[b]? = h.objs[b]? := by
    rw [Array.getElem?_extract]
    split
    · rw [Nat.zero_add]
    · rename_i hq
      have hb' : LT.lt (α := Nat) b n := hb
      exact (Array.getElem?_eq_none_iff.mpr (by simp only [Nat.not_lt] at hq; omega)).symm
  show (match (h.objs.extract 0 n)[b]? with | some ⟨_, _, .freed, _⟩ => none | o => o) = _
  rw [e]; rfl
theorem of_cut {n : Nat} {h : Heap} {b : Addr} {o : Obj} (e : (cutH n h).get? b = some o) : b < n ∧ h.get? b = some o := by
  have hb : b < n := Nat.lt_of_lt_of_le (Heap.lt_size e) cut_size_le
  exact ⟨hb, (cut_get hb) ▸ e⟩
/-- the frame's context for a leg that began at s0, H0 -/
def Zed.gx (Z : Zed) (s0 : Shared) (H0 : Hp) : Cx where
  prog := Z.P
  w := Z.w
  K := Z.K
  mg := Z.mg
  base := Z.base
  A := Z.A.deeper Z.env
  N := Z.N
  s_0 := { s0 with heap := cutH Z.L s0.heap }
  H_0 := H0
  env := Z.env
  outer := Z.outer
  stack := Z.env :: Z.outer
  ex := []
  fn := fun _ => true
  calm := true
  pn := Z.pn
  xe := fun _ _ => False
/-- the frame at rest -/
structure Lain (Z : Zed) (ip : List (Addr × Obj)) (σ : L2.St) (h : Heap) : Prop where
  loc : ∃ m, h.Ns Z.L m ∧ ∀ (i : Nat) (x : Str) (v : V), Z.N[i]? = some x → σ[i]? = some (some v) → Vis Z.env.scope x → ∃ u, RelV v u ∧ Look Z.env h m x u
  pin : ∀ p ∈ Z.pn ++ ip, h.get? p.1 = some p.2 ∧ p.1 ≠ Z.L ∧ p.1 ∉ frs Z.outer ∧ (∀ v, p.2.data ≠ .cell v) ∧ Z.L ≤ p.1
  len : σ.length = Z.N.length
/-- its own objects -/
def Zed.fp (Z : Zed) (ip : List (Addr × Obj)) : List Addr := Z.L :: (Z.pn ++ ip).map (·.1)
/-- who wakes it -/
structure Fits (Z : Zed) (X : Cx) (pins : List (Addr × Obj)) : Prop where
  prog : X.prog = Z.P
  w : X.w = Z.w
  K : X.K = Z.K
  mg : X.mg = Z.mg
  base : X.base = Z.base
  stack : X.stack = Z.outer
  fr : Z.A.frames = some Z.outer
  hd : Z.A.handled = none
  kind : Z.env.scope.kind = .function
  glob : Z.env.globals = mainGlobals
  blt : Z.env.builtins = builtinsNs
  frame : Z.env.frame = some Z.L
  cells : Z.env.cells = []
  nocell : ∀ x, Z.env.kindOf x ≠ some .cell ∧ Z.env.kindOf x ≠ some .free
  bl : X.base.objs.size ≤ Z.L
  xl : X.env.locals < Z.L
  cl : ∀ x c, X.env.cells.lookup x = some c → c < Z.L
  pl : ∀ p ∈ X.pn ++ pins, p.1 < Z.L
  fl : ∀ b ∈ frs X.stack, b < Z.L
theorem look_at {env : Env} {h h' : Heap} {m : Str → Option Value} {x : Str} {u : Value} (hc : env.cells = []) (q : Look env h m x u) : Look env h' m x u := by
  rcases q with q | ⟨_, c, e, _⟩
  · exact .inl q
  · rw [hc] at e; cases e
theorem Lain.keep {Z : Zed} {ip : List (Addr × Obj)} {σ : L2.St} {h h' : Heap} (D : Lain Z ip σ h) (hc : Z.env.cells = []) (k : ∀ b ∈ Z.fp ip, ∀ o, h.get? b = some o → h'.get? b = some o) : Lain Z ip σ h' := by
  refine ⟨?_, fun p hp => ?_, D.len⟩
  · obtain ⟨m, hn, hl⟩ := D.loc
    refine ⟨m, hn.at' fun o e => k _ List.mem_cons_self o e, fun i x v h1 h2 h3 => ?_⟩
    obtain ⟨u, hu, hq⟩ := hl i x v h1 h2 h3
    exact ⟨u, hu, look_at hc hq⟩
  · obtain ⟨h1, h2⟩ := D.pin p hp
    exact ⟨k _ (List.mem_cons_of_mem _ (List.mem_map_of_mem hp)) _ h1, h2⟩
theorem Lain.obj {Z : Zed} {ip : List (Addr × Obj)} {σ : L2.St} {h : Heap} (D : Lain Z ip σ h) : ∀ b ∈ Z.fp ip, ∃ o, h.get? b = some o ∧ ∀ v, o.data ≠ .cell v := fun b hb => by
  rcases List.mem_cons.mp hb with rfl | hb
  · obtain ⟨m, ⟨o, es, ep, e, hd, _⟩, _⟩ := D.loc
    exact ⟨o, e, fun v z => by rw [hd] at z; cases z⟩
  · obtain ⟨p, hp, rfl⟩ := List.mem_map.mp hb
    obtain ⟨h1, _, _, h4, _⟩ := D.pin p hp
    exact ⟨_, h1, h4⟩
theorem Lain.above {Z : Zed} {ip : List (Addr × Obj)} {σ : L2.St} {h : Heap} (D : Lain Z ip σ h) : ∀ b ∈ Z.fp ip, Z.L ≤ b := fun b hb => by
  rcases List.mem_cons.mp hb with rfl | hb
  · exact Nat.le_refl _
  · obtain ⟨p, hp, rfl⟩ := List.mem_map.mp hb
    exact (D.pin p hp).2.2.2.2
theorem funs_cut {base h : Heap} {n : Nat} : ∀ {l : List Env}, (∀ b ∈ frs l, b < n) → h.FunFrames base l → (cutH n h).FunFrames base l
  | [], _, _ => trivial
  | env :: r, hb, ⟨hk, ⟨L, o, hf, hn, ho, hd⟩, hr⟩ => by
    have hl : L < n := hb L (by unfold frs; rw [List.filterMap_cons, hf]; exact List.mem_cons_self)
    exact ⟨hk, ⟨L, o, hf, hn, (cut_get hl).trans ho, hd⟩, funs_cut (fun b q => hb b (by unfold frs; rw [List.filterMap_cons, hf]; exact List.mem_cons_of_mem _ q)) hr⟩
section
variable {Z : Zed} {X : Cx} {pins ip : List (Addr × Obj)} {σ σg : L2.St} {H H' : Hp} {s s1 : Shared}
/-- THE WAKE: the consumer's state is a state for the frame -/
theorem wake_inv (T : Fits Z X pins) (D : Lain Z ip σg s.heap) (hf : ∀ b ∈ Z.fp ip, H b = none) (I : Inv X pins σ H s) : Inv (Z.gx s H) ip σg H s := by
  have hL : Z.L < s.heap.objs.size := by
    obtain ⟨o, e, _⟩ := D.obj Z.L List.mem_cons_self
    exact Heap.lt_size e
  have sk : ∀ b o, (cutH Z.L s.heap).get? b = some o → s.heap.get? b = some o := fun b o e => (of_cut e).2
  have noc : ∀ x c, Z.env.cells.lookup x = some c → False := fun x c e => by rw [T.cells] at e; cases e
  refine ⟨⟨?_, T.kind, T.glob, T.blt, cut_size_le, fun x y c h1 _ => (noc x c h1).elim, fun x hx => ?_, fun x c _ h => (noc x c h).elim, fun _ => T.hd, ?_, .inr ⟨rfl, T.frame⟩, (fun b hb => nomatch hb), fun b o e => ?_, ?_, (fun _ _ _ hb => nomatch hb), (fun b hb => nomatch hb), ?_, fun b hb => ?_⟩,
    rfl, I.bare, Un.kept sk, D.loc, fun x c h => (noc x c h).elim, hf _ List.mem_cons_self, fun x c h => (noc x c h).elim, fun p hp => ?_, ?_, D.len⟩
  · have := I.ok.mod
    rw [T.K, T.mg, T.base] at this
    exact this
  · rcases hx with q | q
    · exact ((T.nocell x).1 q).elim
    · exact ((T.nocell x).2 q).elim
  · exact Around.frames_deeper T.fr
  · have e' : X.base.get? b = some o := by rw [T.base]; exact e
    obtain ⟨h1, h2⟩ := I.bs b o e'
    exact ⟨(cut_get (Nat.lt_of_lt_of_le (Heap.lt_size e') T.bl)).trans h1, h2⟩
  · show Z.base.objs.size ≤ (cutH Z.L s.heap).objs.size
    rw [cut_size (Nat.le_of_lt hL), ← T.base]
    exact T.bl
  · have := I.stack
    rw [T.stack, T.base] at this
    exact funs_cut (fun b hb => T.fl b (by rw [T.stack]; exact hb)) this
  · exact I.stkFree b (by rw [T.stack]; exact hb)
  · obtain ⟨h1, h2, h3, h4, _⟩ := D.pin p hp
    exact ⟨h1, hf _ (List.mem_cons_of_mem _ (List.mem_map_of_mem hp)), h2, h3, h4⟩
  · have := I.hok
    rw [T.prog, T.w] at this
    exact this
theorem obj_there {P : Program} {w : World} {h : Heap} {a : Addr} {o : HO} (x : ObjOk P w H h a o) : ∃ u, h.get? a = some u := by
  cases o with
  | lst xs => obtain ⟨_, _, _, _, e⟩ := x; exact ⟨_, e⟩
  | tup xs => obtain ⟨_, _, _, o, e, _⟩ := x; exact ⟨_, e⟩
  | dK kvs => obtain ⟨_, _, _, _, o, _, _, e, _⟩ := x; exact ⟨_, e⟩
  | dT kvs => obtain ⟨_, _, _, _, o, _, _, e, _⟩ := x; exact ⟨_, e⟩
  | set S n => obtain ⟨o, _, _, _, e, _⟩ := x; exact ⟨_, e⟩
  | ins C dx fs => obtain ⟨_, _, _, e, _⟩ := x; exact ⟨_, e⟩
  | own y => exact x
  | xd fs => obtain ⟨_, ⟨_, _, _, e, _⟩, _⟩ := x; exact ⟨_, e⟩
  | rng lo hi => obtain ⟨_, _, _, e⟩ := x; exact ⟨_, e⟩
  | frz ob u => obtain ⟨e, _⟩ := x; exact ⟨_, e⟩
  | tbl ps => exact ⟨_, x⟩
  | met f y => exact ⟨_, x⟩
  | ext φ => obtain ⟨_, e, _⟩ := x; exact e
/-- what the legs may touch of the consumer's untracked objects: those that are younger than the frame -/
def young (h : Heap) (H : Hp) (L : Addr) : List Addr := (List.range h.objs.size).filter fun b => decide (L ≤ b) && (H b).isNone
theorem mem_young {h : Heap} {L b : Addr} : b ∈ young h H L ↔ b < h.objs.size ∧ L ≤ b ∧ H b = none := by
  unfold young
  rw [List.mem_filter, List.mem_range, Bool.and_eq_true, decide_eq_true_iff, Option.isNone_iff_eq_none]
/-- THE WAY BACK: behind a leg -/
theorem back_inv {g : Nat} {gs : GenState} {s0 : Shared} (T : Fits Z X pins) (I : Inv X pins σ H s) (h0 : s0.heap = s.heap) (o0 : s0.os = s.os) (J : Inv (Z.gx s0 H) ip σg H' s1) (lv : ∀ b u, H b = some u → ∃ u', H' b = some u') (hb : gs.bare = true) : Inv X pins σ H' (s1.setGen g gs) := by
  have hJ : Un (frs Z.outer) [] H H' (cutH Z.L s0.heap) s1.heap := J.base
  rw [h0] at hJ
  have hok : HOk X.prog X.w H' s1.heap := by
    have := J.hok
    rw [T.prog, T.w]
    exact this
  refine I.call' (ch := young s.heap H Z.L) (J.os.trans o0) ⟨fun b o e n hb hc => ?_, fun b o e n hb hc => ?_, fun b o e n hc => ?_, fun b o e hc => ?_, hJ.tups, hJ.frzs, hJ.tbls⟩ hok (bare_set J.bare hb) fun b hb => ?_
  · have hl : b < Z.L := Nat.lt_of_not_le fun z => hc (mem_young.mpr ⟨Heap.lt_size e, z, n⟩)
    exact hJ.keep b o ((cut_get hl).trans e) n (by rw [← T.stack]; exact hb) (by simp)
  · have hl : b < Z.L := Nat.lt_of_not_le fun z => hc (mem_young.mpr ⟨Heap.lt_size e, z, n⟩)
    exact hJ.slot b o ((cut_get hl).trans e) n (by rw [← T.stack]; exact hb) (by simp)
  · have hl : b < Z.L := Nat.lt_of_not_le fun z => hc (mem_young.mpr ⟨Heap.lt_size e, z, n⟩)
    exact hJ.free b o ((cut_get hl).trans e) n (by simp)
  · by_cases hl : b < Z.L
    · exact hJ.there b o ((cut_get hl).trans e) (by simp)
    · cases q : H b with
      | none => exact (hc (mem_young.mpr ⟨Heap.lt_size e, Nat.le_of_not_lt hl, q⟩)).elim
      | some u =>
        obtain ⟨u', q'⟩ := lv b u q
        exact obj_there (hok b u' q')
  · obtain ⟨_, h2, _⟩ := mem_young.mp hb
    have hx := T.xl
    refine ⟨.inr (Nat.le_trans I.ok.above (Nat.le_trans (Nat.le_of_lt hx) h2)), Nat.ne_of_gt (Nat.lt_of_lt_of_le hx h2), fun x c e => Nat.ne_of_lt (Nat.lt_of_lt_of_le (T.cl x c e) h2), fun p hp => Nat.ne_of_lt (Nat.lt_of_lt_of_le (T.pl p hp) h2)⟩
/-- the frame's own objects, as the consumer sees them -/
theorem fp_ok (T : Fits Z X pins) {s0 : Shared} (I : Inv X pins σ H s) (D : Lain Z ip σg s1.heap) (J : Inv (Z.gx s0 H) ip σg H' s1) : ∀ b ∈ Z.fp ip, FpOk X pins H' b := fun b hb => by
  have hL := D.above b hb
  have hx := T.xl
  have hn : H' b = none := by
    rcases List.mem_cons.mp hb with rfl | hb
    · exact J.free
    · obtain ⟨p, hp, rfl⟩ := List.mem_map.mp hb
      exact (J.pin p hp).2.1
  refine ⟨hn, Nat.ne_of_gt (Nat.lt_of_lt_of_le hx hL), fun hm => ?_, .inr (Nat.le_trans I.ok.above (Nat.le_trans (Nat.le_of_lt hx) hL)), fun x c e => Nat.ne_of_lt (Nat.lt_of_lt_of_le (T.cl x c e) hL), fun p hp => Nat.ne_of_lt (Nat.lt_of_lt_of_le (T.pl p hp) hL)⟩
  have hm' : b ∈ frs X.stack := by
    rcases I.ok.stk with e | ⟨e, hf⟩
    · rw [e]; exact hm
    · rw [e]; unfold frs; rw [List.filterMap_cons, hf]; exact List.mem_cons_of_mem _ hm
  exact absurd (T.fl b hm') (Nat.not_lt_of_le hL)
theorem lain_of {s0 : Shared} (J : Inv (Z.gx s0 H) ip σg H' s1) (hp : ∀ p ∈ Z.pn ++ ip, Z.L ≤ p.1) : Lain Z ip σg s1.heap :=
  ⟨J.loc, fun p q => let ⟨h1, _, h3, h4, h5⟩ := J.pin p q; ⟨h1, h3, h4, h5, hp p q⟩, J.len⟩
end
end Gw
/-! text Gw5 -/
set_option maxHeartbeats 1000000
/-! Gw5: the statements of a generator def, over all its legs. -/
namespace Gw
open PySem PyProof.Rows L2
open Sem (wp)
/-- the end: i items are out -/
def Zed.R (Z : Zed) (i : Nat) (s0 : Shared) (H0 : Hp) : Result → Shared → Prop := fun r s1 => (r = .ok (.ret .none) ∨ r = .ok .next) ∧ ∃ ip σ H, Inv (Z.gx s0 H0) ip σ H s1 ∧ Z.en i H0 H
/-- an item: m more may follow -/
def Zed.Y (Z : Zed) : Nat → Nat → Shared → Hp → Value → GenState → Shared → Prop
  | 0, _, _, _ => fun _ _ _ => False
  | m + 1, i, s0, H0 => fun v gs s' => ∃ x ip σ H, Inv (Z.gx s0 H0) ip σ H s' ∧ (∀ p ∈ Z.pn ++ ip, Z.L ≤ p.1) ∧ RelV x v ∧ Z.yl i H0 x H ∧
      ∀ s'' H'', Z.wk H H'' → Inv (Z.gx s'' H'') ip σ H'' s'' → Rises (model Z.P Z.w) Z.A (Z.R (i + 1) s'' H'') (Z.Y m (i + 1) s'' H'') gs (.send .none) s''
/-- what is wanted behind a statement: items out, the heap at the leg's start, slots, heap -/
structure GD where
  nx : Nat → Hp → L2.St → Hp → Prop
  rt : Nat → Hp → V → Hp → Prop
  bk : Nat → Hp → L2.St → Hp → Prop := fun _ _ _ _ => False
  ct : Nat → Hp → L2.St → Hp → Prop := fun _ _ _ _ => False
abbrev TGW := GD → Nat → Hp → L2.St → Hp → Prop
def GD.at (D : GD) (i : Nat) (H0 : Hp) : Ends := { nx := D.nx i H0, rt := D.rt i H0, bk := D.bk i H0, ct := D.ct i H0 }
def GSx (Z : Zed) (ip : List (Addr × Obj)) (D : GD) (i : Nat) (s0 : Shared) (H0 : Hp) (f : Flow) (s : Shared) : Prop := SP (Z.gx s0 H0) ip (D.at i H0) f s
/-- where the code stands -/
structure Gc (Z : Zed) (ip : List (Addr × Obj)) (c : Code) (fs : List Frame) (gd : Bool → Bool) : Prop where
  up : ∀ p ∈ Z.pn ++ ip, Z.L ≤ p.1
  over : Z.A.over c fs = Z.A.deeper Z.env
  split : splitAtGen fs = none
  guard : fs.any Frame.guarded = false
  gd : gd false = false
def Gk (Z : Zed) (ip : List (Addr × Obj)) (c : Code) (fs : List Frame) (K : Flow → Sem PySem.Fin) (D : GD) : Prop :=
  ∀ (m i : Nat) (s0 : Shared) (H0 : Hp) (s : Shared) (f : Flow), i + m = Z.most ∧ Z.L ≤ s0.heap.objs.size → GSx Z ip D i s0 H0 f s → Leg (model Z.P Z.w) Z.A (Z.R i s0 H0) (Z.Y m i s0 H0) c (K f) fs s
structure GP (Z : Zed) (st : Stmt) (t : TGW) : Prop where
  run : ∀ (ip : List (Addr × Obj)) (c : Code) (fs : List Frame) (K : Flow → Sem PySem.Fin) (J : Value → Sem PySem.Fin) (gd : Bool → Bool) (lv : List Value → List Value) (m i : Nat) (s0 : Shared) (H0 : Hp) (s : Shared) (σ : L2.St) (H : Hp) (D : GD),
    Gc Z ip c fs gd → i + m = Z.most ∧ Z.L ≤ s0.heap.objs.size → Gk Z ip c fs K D → Inv (Z.gx s0 H0) ip σ H s → t D i H0 σ H → Leg (model Z.P Z.w) Z.A (Z.R i s0 H0) (Z.Y m i s0 H0) c ((exec st Z.env).wrap K J gd lv) fs s
structure GPs (Z : Zed) (st : List Stmt) (t : TGW) : Prop where
  run : ∀ (ip : List (Addr × Obj)) (c : Code) (fs : List Frame) (K : Flow → Sem PySem.Fin) (J : Value → Sem PySem.Fin) (gd : Bool → Bool) (lv : List Value → List Value) (m i : Nat) (s0 : Shared) (H0 : Hp) (s : Shared) (σ : L2.St) (H : Hp) (D : GD),
    Gc Z ip c fs gd → i + m = Z.most ∧ Z.L ≤ s0.heap.objs.size → Gk Z ip c fs K D → Inv (Z.gx s0 H0) ip σ H s → t D i H0 σ H → Leg (model Z.P Z.w) Z.A (Z.R i s0 H0) (Z.Y m i s0 H0) c ((execs st Z.env).wrap K J gd lv) fs s
section
variable {Z : Zed} {st : Stmt} {rest : List Stmt}
theorem gx_size {s0 : Shared} {H0 : Hp} (h : Z.L ≤ s0.heap.objs.size) : (Z.gx s0 H0).s_0.heap.objs.size = Z.L := cut_size h
def tPl (t : TS) : TGW := fun D i H0 σ H => t (D.at i H0) σ H
theorem gp_ps {t : TS} (h : ∀ s0 H0, PS (Z.gx s0 H0) st t) : GP Z st (tPl t) := by
  refine ⟨fun ip c fs K J gd lv m i s0 H0 s σ H D g hm k I ht => leg_wrap ?_⟩
  rw [g.over]
  exact wpAny_mono ((h s0 H0).run ip s σ H (D.at i H0) I ht) (fun f s' hs => k m i s0 H0 s' f hm hs) fun x s' hx => hx.elim
theorem gps_pss {t : TS} (h : ∀ s0 H0, PSs (Z.gx s0 H0) rest t) : GPs Z rest (tPl t) := by
  refine ⟨fun ip c fs K J gd lv m i s0 H0 s σ H D g hm k I ht => leg_wrap ?_⟩
  rw [g.over]
  exact wpAny_mono ((h s0 H0).run ip s σ H (D.at i H0) I ht) (fun f s' hs => k m i s0 H0 s' f hm hs) fun x s' hx => hx.elim
def tG0 : TGW := fun D i H0 σ H => D.nx i H0 σ H
theorem gps_nil : GPs Z [] tG0 :=
  ⟨fun ip c fs K J gd lv m i s0 H0 s σ H D g hm k I ht => leg_nil (k m i s0 H0 s .next hm ⟨σ, H, I, ht⟩)⟩
def tGThen (t u : TGW) : TGW := fun D i H0 σ H => t { D with nx := fun i' H0' σ' H' => u D i' H0' σ' H' } i H0 σ H
theorem gps_cons {t u : TGW} (a : GP Z st t) (b : GPs Z rest u) : GPs Z (st :: rest) (tGThen t u) := by
  refine ⟨fun ip c fs K J gd lv m i s0 H0 s σ H D g hm k I ht => leg_cons ?_⟩
  refine a.run ip c fs _ J gd lv m i s0 H0 s σ H { D with nx := fun i' H0' σ' H' => u D i' H0' σ' H' } g hm (fun m' i' s0' H0' s' f hm' hs => ?_) I ht
  cases f with
  | next =>
    obtain ⟨σ', H', I', q⟩ := hs
    exact b.run ip c fs K J gd lv m' i' s0' H0' s' σ' H' D g hm' k I' q
  | brk => exact k m' i' s0' H0' s' .brk hm' hs
  | cont => exact k m' i' s0' H0' s' .cont hm' hs
  | ret u => exact k m' i' s0' H0' s' (.ret u) hm' hs
theorem gps_one {t : TGW} (a : GP Z st t) : GPs Z [st] (tGThen t tG0) := gps_cons a gps_nil
/-- yield e -/
def tGY (Z : Zed) (te : TE) : TGW := fun D i H0 σ H => i < Z.most ∧ te σ H fun x H1 => Z.yl i H0 x H1 ∧ ∀ H'', Z.wk H1 H'' → D.nx (i + 1) H'' σ H''
theorem gp_yield {e : Expr} {yp pos : Pos} {te : TE} (he : ∀ s0 H0, PE (Z.gx s0 H0) e te) (hco : Z.env.scope.isCoroutine = false) (hi : interactive Z.env = false) : GP Z (.Expr (.Yield (some e) yp) pos) (tGY Z te) := by
  refine ⟨fun ip c fs K J gd lv m i s0 H0 s σ H D g hm k I ht => ?_⟩
  obtain ⟨hlt, ht⟩ := ht
  obtain ⟨m, rfl⟩ : ∃ n, m = n + 1 := ⟨m - 1, by have := hm.1; omega⟩
  refine leg_yieldS g.split g.gd g.guard ?_ hco hi
  rw [g.over]
  refine wpAny_mono ((he s0 H0).run ip s σ H _ I ht) (fun v s' hv => ?_) fun x s' hx => hx.elim
  obtain ⟨x, H1, I1, rv, hy, hn⟩ := hv
  intro z hz up
  refine ⟨x, ip, σ, H1, I1, g.up, rv, hy, fun s'' H'' hw I'' => up _ _ s'' ?_⟩
  exact k m (i + 1) s'' H'' s'' .next ⟨by have := hm.1; omega, Nat.le_of_lt I''.lt⟩ ⟨σ, H'', I'', hn H'' hw⟩
/-- if -/
theorem gp_if {test : Expr} {a b : List Stmt} {pos : Pos} {tc : TT} {t u : TGW} (hc : ∀ s0 H0, PT (Z.gx s0 H0) test tc) (ha : GPs Z a t) (hb : GPs Z b u) : GP Z (.If test a b pos) (fun D i H0 σ H => tc σ H fun k H1 => if k = true then t D i H0 σ H1 else u D i H0 σ H1) := by
  refine ⟨fun ip c fs K J gd lv m i s0 H0 s σ H D g hm k I ht => ?_⟩
  rw [exec_If]
  refine leg_bindw (wpAny_standAt ?_)
  refine leg_bindw ?_
  rw [g.over]
  refine wpAny_mono ((hc s0 H0).run ip s σ H _ I ht) (fun b' s' hs => ?_) fun x s' hx => hx.elim
  obtain ⟨H1, I1, q⟩ := hs
  cases b' with
  | true => exact ha.run ip c fs K J gd lv m i s0 H0 s' σ H1 D g hm k I1 q
  | false => exact hb.run ip c fs K J gd lv m i s0 H0 s' σ H1 D g hm k I1 q
/-- for -/
def tGFor (wi : TI) (gt : TG) (tb : TGW) : TGW := fun D i H0 σ H => wi σ H fun T H1 => ∃ W : Nat → Nat → Nat → Hp → L2.St → Hp → Prop, (∃ n, W 0 n i H0 σ H1) ∧ ∀ j n i H0 σ H, W j n i H0 σ H →
  (T.stop j H ∧ D.nx i H0 σ H) ∨ (T.go j H ∧ ∃ N : Nat → Hp → L2.St → Hp → Prop, (∀ i' H0' σ' H', N i' H0' σ' H' → ∃ n', n' < n ∧ W (j + 1) n' i' H0' σ' H') ∧
    ∀ x H', T.yld j H x H' → gt x σ H' fun σ2 H2 => tb { D with nx := N, ct := N, bk := D.nx } i H0 σ2 H2)
theorem gc_in {ip : List (Addr × Obj)} {c c' : Code} {fs : List Frame} {gd : Bool → Bool} {k : Result → Sem PySem.Fin} {l kp : List Value} {p : Pos} (g : Gc Z ip c fs gd) (hw : c'.weight = 0) (hu : c'.cUnits = 0) : Gc Z ip c' (.ret k none (gd false) l c p kp :: fs) id where
  up := g.up
  over := (GenW.over_loop hw hu).trans g.over
  split := by rw [splitAtGen_ret, g.split]; rfl
  guard := by
    show (gd false || fs.any Frame.guarded) = false
    rw [g.gd, g.guard]; rfl
  gd := rfl
theorem gp_for {tg iter : Expr} {body : List Stmt} {pos : Pos} {wi : TI} {gt : TG} {tb : TGW} (hi : ∀ s0 H0, PI (Z.gx s0 H0) tg iter wi) (hg : ∀ s0 H0, PG (Z.gx s0 H0) tg gt) (hb : GPs Z body tb) (hnc : Z.env.cells = [])
    (hx : ∀ x, foldedSetIterable iter Z.env x = pure x) : GP Z (.For tg iter body [] pos) (tGFor wi gt tb) := by
  refine ⟨fun ip c fs K J gd lv m i s0 H0 s σ H D g hm k I ht => leg_For hx ?_⟩
  rw [g.over]
  refine wpAny_mono ((hi s0 H0).run ip s σ H _ I ht) (fun v s1 h1 => ?_) fun x s' hx => hx.elim
  refine wpAny_mono h1 (fun itv s2 h2 => ?_) fun x s' hx => hx.elim
  intro J' p
  obtain ⟨it, fp, tn, T, H2, rfl, I2, TT, st2, f2, W, ⟨n0, w0⟩, turn⟩ := h2
  have gl := fun (kk : Result → Sem PySem.Fin) => gc_in (k := kk) (c' := loopC tg (.ref it) body Z.env) (l := lv []) (kp := []) (p := p) g rfl rfl
  -- what stays true of the iterator's objects
  have below : ∀ b ∈ fp, Z.L ≤ b ∧ b ≠ Z.L ∧ b ∉ frs Z.outer ∧ ∀ q ∈ Z.pn ++ ip, q.1 ≠ b := fun b hb => by
    obtain ⟨_, h2, h3, h4, _, h6⟩ := f2 b hb
    refine ⟨?_, h2, h3, h6⟩
    rcases h4 with z | z
    · cases z
    · rw [gx_size hm.2] at z; exact z
  have fok : ∀ {s0' : Shared} {H0' H' : Hp}, Z.L ≤ s0'.heap.objs.size → (∀ b ∈ fp, H' b = none) → ∀ b ∈ fp, FpOk (Z.gx s0' H0') ip H' b := fun {s0' H0' H'} hsz hn b hb => by
    obtain ⟨h1, h2, h3, h4⟩ := below b hb
    refine ⟨hn b hb, h2, h3, .inr ?_, fun x c e => ?_, h4⟩
    · rw [gx_size hsz]; exact h1
    · have e' : Z.env.cells.lookup x = some c := e
      rw [hnc] at e'; cases e'
  have loop : ∀ (n m i j : Nat) (s0 : Shared) (H0 : Hp) (s : Shared) (σ : L2.St) (H : Hp), i + m = Z.most ∧ Z.L ≤ s0.heap.objs.size → W j n i H0 σ H → Inv (Z.gx s0 H0) ip σ H s → tn j s.heap → (∀ b ∈ fp, H b = none) →
      Leg (model Z.P Z.w) Z.A (Z.R i s0 H0) (Z.Y m i s0 H0) (loopC tg (.ref it) body Z.env) ((model Z.P Z.w).den (loopC tg (.ref it) body Z.env))
        (.ret (fun r => (match r with | .ok f => (.pure f : Sem Flow) | .error e => J' e).wrap K J gd lv) none (gd false) (lv []) c p [] :: fs) s := by
    intro n
    induction n using Nat.strongRecOn with
    | ind n ih =>
      intro m i j s0 H0 s σ H hm w I st fn
      refine leg_turn ?_
      rw [(gl _).over]
      rcases turn j n i H0 σ H w with ⟨stop, qn⟩ | ⟨go, N, hN, step⟩
      · refine wpAny_mono (TT.done (Z.gx s0 H0) rfl rfl rfl rfl j ip s σ H (fun _ _ => False) I (fok hm.2 fn) st stop) (fun r s4 h4 => ?_) fun _ _ z => z
        obtain ⟨rfl, I4⟩ := h4
        exact leg_leaf (.ok .next) (k m i s0 H0 s4 .next hm ⟨σ, H, I4, qn⟩)
      · refine wpAny_mono (TT.item (Z.gx s0 H0) rfl rfl rfl rfl j ip s σ H (fun _ _ => False) I (fok hm.2 fn) st go) (fun r s4 h4 => ?_) fun _ _ z => z
        obtain ⟨u, rfl, h4⟩ := h4
        refine wpAny_mono h4 (fun _ s5 h5 => ?_) fun _ _ z => z
        obtain ⟨x, H5, I5, r5, y5, st5, fn5⟩ := h5
        have I5' := I5.pinned (fok hm.2 fn5) (TT.obj _ _ st5)
        refine wpAny_mono ((hg s0 H0).run (ip ++ pinsAt fp s5.heap) s5 σ H5 x u _ I5' r5 (step x H5 y5)) (fun _ s6 h6 => ?_) fun _ _ z => z
        obtain ⟨σ6, H6, I6, q6⟩ := h6
        intro J2 gd2 lv2 hgd2
        have up6 : ∀ q ∈ Z.pn ++ (ip ++ pinsAt fp s5.heap), Z.L ≤ q.1 := fun q hq => by
          rw [← List.append_assoc] at hq
          rcases List.mem_append.mp hq with z | z
          · exact g.up q z
          · exact (below q.1 (of_pinsAt z).1).1
        have again : ∀ {m' i' : Nat} {s0' : Shared} {H0' : Hp} {σ7 : L2.St} {H7 : Hp} {s7 : Shared}, i' + m' = Z.most ∧ Z.L ≤ s0'.heap.objs.size → Inv (Z.gx s0' H0') (ip ++ pinsAt fp s5.heap) σ7 H7 s7 → N i' H0' σ7 H7 →
            Leg (model Z.P Z.w) Z.A (Z.R i' s0' H0') (Z.Y m' i' s0' H0') (loopC tg (.ref it) body Z.env) (.pure (.again (loopC tg (.ref it) body Z.env)))
              (.ret (fun r => (match r with | .ok f => (.pure f : Sem Flow) | .error e => J' e).wrap K J gd lv) none (gd false) (lv []) c p [] :: fs) s7 := fun {m' i' s0' H0' σ7 H7 s7} hm' I7 n7 => by
          obtain ⟨n', hn', w7⟩ := hN i' H0' σ7 H7 n7
          refine leg_again rfl (ih n' hn' m' i' (j + 1) s0' H0' s7 σ7 H7 hm' w7 I7.unpinned (TT.keep _ _ _ st5 fun b hb o e => (I7.pin (b, o) (List.mem_append_right _ (List.mem_append_right _ (mem_pinsAt hb e)))).1) fun b hb => ?_)
          obtain ⟨o, e, _⟩ := TT.obj _ _ st5 b hb
          exact (I7.pin (b, o) (List.mem_append_right _ (List.mem_append_right _ (mem_pinsAt hb e)))).2.1
        refine hb.run (ip ++ pinsAt fp s5.heap) _ _ _ J2 gd2 lv2 m i s0 H0 s6 σ6 H6 { D with nx := N, ct := N, bk := D.nx } ⟨up6, (gl _).over, (gl _).split, (gl _).guard, hgd2⟩ hm (fun m' i' s0' H0' s7 f hm' hs => ?_) I6 q6
        cases f with
        | next => obtain ⟨σ7, H7, I7, n7⟩ := hs; exact again hm' I7 n7
        | cont => obtain ⟨σ7, H7, I7, n7⟩ := hs; exact again hm' I7 n7
        | brk => obtain ⟨σ7, H7, I7, q7⟩ := hs; exact leg_leaf (.ok .next) (k m' i' s0' H0' s7 .next hm' ⟨σ7, H7, I7.unpinned, q7⟩)
        | ret v => obtain ⟨x7, σ7, H7, I7, r7, q7⟩ := hs; exact leg_leaf (.ok (.ret v)) (k m' i' s0' H0' s7 (.ret v) hm' ⟨x7, σ7, H7, I7.unpinned, r7, q7⟩)
  exact loop n0 m i 0 s0 H0 s2 σ H2 hm w0 I2 st2 fun b hb => (f2 b hb).1
end
end Gw
/-! text Gw6 -/
set_option maxHeartbeats 1000000
/-! Gw6: a generator def called; a for loop over what it hands out. -/
namespace Gw
open PySem PyProof.Rows L2
open Sem (wp)
theorem Inv.tab {X : Cx} {pins : List (Addr × Obj)} {σ : L2.St} {H : Hp} {s s' : Shared} (I : L2.Inv X pins σ H s) (h1 : s'.heap = s.heap) (h2 : s'.os = s.os) (hb : AllBare s'.gens) : L2.Inv X pins σ H s' := by
  obtain ⟨hp, gs, d, t, o⟩ := s'
  obtain ⟨hp', gs', d', t', o'⟩ := s
  obtain rfl : hp = hp' := h1
  obtain rfl : o = o' := h2
  exact ⟨I.ok, I.os, hb, I.base, I.loc, I.cell, I.free, I.freeC, I.pin, I.hok, I.len⟩
/-- what a generator hands out: how many items, each one, the end, what it may trust in at a wake -/
structure Spz where
  most : Nat
  yl : Nat → Hp → V → Hp → Prop
  en : Nat → Hp → Hp → Prop
  wk : Hp → Hp → Prop
def zedOf (P : Program) (w : World) (K : PySem.W.Frag) (mg : Str → Option Value) (base : Heap) (N : List Str) (env : Env) (A : Around) (outer : List Env) (a : Addr) (go : Obj) (S : Spz) : Zed :=
  ⟨P, w, K, mg, base, N, env, A, outer, [(a, go)], S.most, S.yl, S.en, S.wk⟩
/-- a generator that was made at the state s, H -/
def MadeZ (P : Program) (w : World) (K : PySem.W.Frag) (mg : Str → Option Value) (base : Heap) (k : Nat) (outer : List Env) (H : Hp) (s : Shared) (S : Spz) (u : Value) (s' : Shared) : Prop :=
  ∃ (a : Addr) (g : Nat) (c : Code) (env : Env) (N : List Str) (go : Obj) (nm qn : Value), u = .ref a ∧ env.locals = s.heap.objs.size ∧ s.heap.objs.size < a ∧ s'.heap.get? a = some go ∧ go.cls = .type "generator" ∧ go.data = .fields #[.int g 0, nm, qn] ∧ go.slots = #[] ∧
    s'.gens[g]? = some (.fresh c) ∧ s'.os = s.os ∧ AllBare s'.gens ∧ (∀ b o, s.heap.get? b = some o → s'.heap.get? b = some o) ∧
    env.scope.kind = .function ∧ env.globals = mainGlobals ∧ env.builtins = builtinsNs ∧ env.frame = some env.locals ∧ env.cells = [] ∧ (∀ x, env.kindOf x ≠ some .cell ∧ env.kindOf x ≠ some .free) ∧
    ∃ σg, (∃ m, s'.heap.Ns env.locals m ∧ ∀ (i : Nat) (x : Str) (v : V), N[i]? = some x → σg[i]? = some (some v) → Vis env.scope x → ∃ u, RelV v u ∧ Look env s'.heap m x u) ∧ σg.length = N.length ∧
    ∀ (A : Around), Room k A → A.frames = some outer →
      ∀ s'' H'', S.wk H H'' → L2.Inv ((zedOf P w K mg base N env A outer a go S).gx s'' H'') [] σg H'' s'' →
        Rises (model P w) A ((zedOf P w K mg base N env A outer a go S).R 0 s'' H'') ((zedOf P w K mg base N env A outer a go S).Y S.most 0 s'' H'') (.fresh c) (.send .none) s''
/-- an expression that makes a generator -/
abbrev TMk := L2.St → Hp → (Spz → Hp → Prop) → Prop
structure PMk (X : Cx) (k : Nat) (e : Expr) (tm : TMk) : Prop where
  run : ∀ (pins : List (Addr × Obj)) (s : Shared) (σ : L2.St) (H : Hp) (Q : Spz → Hp → Prop), L2.Inv X pins σ H s → tm σ H Q → wpAny (model X.prog X.w) X.A (eval e X.env)
    (fun u s' => ∃ H1 sc S, L2.Inv X pins σ H1 sc ∧ MadeZ X.prog X.w X.K X.mg X.base k X.stack H1 sc S u s' ∧ Q S H1) X.xe s
def tForZ (tm : TMk) (gt : TG) (tb : TS) : TS := fun D σ H => tm σ H fun S H1 => ∃ W : Nat → Hp → L2.St → Hp → Prop, W 0 H1 σ H1 ∧ ∀ i Hy σ H, i ≤ S.most → W i Hy σ H → S.wk Hy H ∧
  (∀ x H', S.yl i H x H' → (∀ b u, H b = some u → ∃ u', H' b = some u') ∧ gt x σ H' fun σ2 H2 => tb { D with nx := W (i + 1) H', ct := W (i + 1) H', bk := D.nx } σ2 H2) ∧
  (∀ H', S.en i H H' → (∀ b u, H b = some u → ∃ u', H' b = some u') ∧ D.nx σ H')
theorem up_inv {X : Cx} {pins : List (Addr × Obj)} {σ : L2.St} {H : Hp} {s1 : Shared} {α : Rests} (I : L2.Inv X pins σ H s1) : L2.Inv X pins σ H (put α s1) := Inv.tab I rfl rfl (bare_put I.bare)
theorem gens_in {s : Shared} {g : Nat} {x : GenState} (h : g < s.gens.size) : (s.setGen g x).gens[g]? = some x := by
  show (s.gens.setIfInBounds g x)[g]? = _
  rw [Array.getElem?_setIfInBounds_self_of_lt h]
theorem ps_forZ {X : Cx} {k : Nat} {tg iter : Expr} {body : List Stmt} {pos : Pos} {tm : TMk} {gt : TG} {tb : TS} (hxe : ∀ e s, ¬ X.xe e s) (hc : X.calm = true) (hr : Room (k + 1) X.A) (hi : PMk X k iter tm) (hg : PG X tg gt) (hb : PSs X body tb)
    (hx : ∀ x, foldedSetIterable iter X.env x = pure x := by intro _; rfl) : PS X (.For tg iter body [] pos) (tForZ tm gt tb) := by
  refine ⟨fun pins s σ H D I h => ?_⟩
  refine wpAny_For (thn (hi.run pins s σ H _ I h) fun v s1 h1 => ?_) hx
  obtain ⟨H1, sc, S, Ic, hM, W, w0, turn⟩ := h1
  obtain ⟨a, g, c, env, N, go, nm, qn, rfl, eL, hLa, hgo, hcls, hdat, hslots, hgen, hos, hbare, hkeep, k1, k2, k3, k4, k5, k6, σg, hloc, hlen, hrise⟩ := hM
  have hgL : ∀ {h : Heap}, h.get? a = some go → h.IsGen a g := fun {h} e => ⟨go, nm, qn, e, hcls, hdat, hslots⟩
  refine wpAny_pyIter_gen (hgL hgo) ?_
  have hRoom : Room k X.A.in1 := by
    refine ⟨hr.hd, ?_, ?_⟩
    · have := hr.dp
      show X.A.depth + 3 * k + 5 < _
      omega
    · have := hr.un
      show X.A.units + 1 + 16 * k + 200 < _
      omega
  have hfr : X.A.in1.frames = some X.stack := Ic.ok.frames
  generalize hZ : zedOf X.prog X.w X.K X.mg X.base N env X.A.in1 X.stack a go S = Z at hrise
  have zL : Z.L = sc.heap.objs.size := by rw [← hZ]; exact eL
  have hlt : ∀ b o, sc.heap.get? b = some o → b < Z.L := fun b o e => by rw [zL]; exact Heap.lt_size e
  have T : Fits Z X pins := by
    have e := zL
    subst hZ
    refine ⟨rfl, rfl, rfl, rfl, rfl, rfl, hfr, hr.hd, k1, k2, k3, k4, k5, k6, ?_, ?_, fun x c q => ?_, fun p hp => hlt _ _ (Ic.pin p hp).1, fun b hb => ?_⟩
    · rw [e]
      exact Nat.le_trans Ic.ok.bsz (Ic.sz)
    · rw [e]; exact Ic.lt
    · obtain ⟨v, o, ho, _⟩ := Ic.cell x c q
      exact hlt _ _ ho
    · obtain ⟨_, o, ho, _⟩ := Ic.stack.mem hb
      exact hlt _ _ ho
  have zpn : Z.pn = [(a, go)] := by rw [← hZ]; rfl
  have zwk : Z.wk = S.wk := by rw [← hZ]; rfl
  have zyl : Z.yl = S.yl := by rw [← hZ]; rfl
  have zen : Z.en = S.en := by rw [← hZ]; rfl
  have zmost : Z.most = S.most := by rw [← hZ]; rfl
  have zA : Z.A = X.A.in1 := by rw [← hZ]; rfl
  have zP : model Z.P Z.w = model X.prog X.w := by rw [← hZ]; rfl
  have I1 : L2.Inv X pins σ H1 s1 := Ic.call' (ch := []) hos (Un.kept hkeep) (Ic.hok.kept hkeep) hbare fun b z => by simp at z
  have zfp : Z.fp [] = [Z.L, a] := by unfold Zed.fp; rw [zpn]; rfl
  have out : ∀ b, Z.L ≤ b → H1 b = none → FpOk X pins H1 b := fun b hb hn => by
    have hx := T.xl
    refine ⟨hn, Nat.ne_of_gt (Nat.lt_of_lt_of_le hx hb), fun hm => ?_, .inr (Nat.le_trans Ic.ok.above (Nat.le_trans (Nat.le_of_lt hx) hb)), fun x c e => Nat.ne_of_lt (Nat.lt_of_lt_of_le (T.cl x c e) hb), fun p hp => Nat.ne_of_lt (Nat.lt_of_lt_of_le (T.pl p hp) hb)⟩
    exact Ic.nofs (by rw [← zL]; exact hb) hm
  have zf : ∀ b, Z.L ≤ b → H1 b = none := fun b hb => Ic.hok.fresh (by rw [← zL]; exact hb)
  have D1 : Lain Z [] σg s1.heap := by
    have e := zL
    subst hZ
    refine ⟨hloc, fun p hp => ?_, hlen⟩
    have hp' : p = (a, go) := by simpa [zedOf] using hp
    subst hp'
    refine ⟨hgo, fun z => ?_, fun hm => ?_, (fun v z => by rw [hdat] at z; cases z), ?_⟩
    · have z' : a = sc.heap.objs.size := z.trans e
      exact absurd z' (Nat.ne_of_gt hLa)
    · obtain ⟨_, o, ho, _⟩ := Ic.stack.mem hm
      exact absurd (Nat.lt_trans (Heap.lt_size ho) hLa) (Nat.lt_irrefl _)
    · show env.locals ≤ a
      rw [eL]; exact Nat.le_of_lt hLa
  refine codeAny_forLoop_any (fun n s' => ∃ i σ' H' Hy gs ip σz, i + n = Z.most ∧ L2.Inv X pins σ' H' s' ∧ W i Hy σ' H' ∧ s'.gens[g]? = some gs ∧ Lain Z ip σz s'.heap ∧ (∀ b ∈ Z.fp ip, FpOk X pins H' b) ∧
      ∀ s'' H'', Z.wk Hy H'' → L2.Inv (Z.gx s'' H'') ip σz H'' s'' → Rises (model X.prog X.w) X.A.in1 (Z.R i s'' H'') (Z.Y n i s'' H'') gs (.send .none) s'') ?_ Z.most
    ⟨0, σ, H1, H1, _, [], σg, Nat.zero_add _, I1, w0, hgen, D1, fun b hb => ?_, ?_⟩
  rotate_left
  · rw [zfp] at hb
    have : Z.L ≤ b := by
      rcases List.mem_cons.mp hb with rfl | hb
      · exact Nat.le_refl _
      · rw [List.mem_singleton.mp hb, zL]; exact Nat.le_of_lt hLa
    exact out b this (zf b this)
  · intro s'' H'' hw hI
    rw [zwk] at hw
    rw [zmost]
    exact hrise X.A.in1 hRoom hfr s'' H'' hw (by rw [hZ]; exact hI) |> fun z => by rw [hZ] at z; exact z
  rintro n s3 ⟨i, σ3, H3, Hy, gs, ip, σz, hin, I3, w3, hgs, D3, F3, rise⟩
  obtain ⟨hwk, hyl, hen⟩ := turn i Hy σ3 H3 (by rw [← zmost]; omega) w3
  have hgsz : g < s3.gens.size := (Array.getElem?_eq_some_iff.mp hgs).1
  have I3r : L2.Inv X pins σ3 H3 (s3.setGen g .running) := Inv.tab I3 rfl rfl (bare_set I3.bare rfl)
  have J3 := wake_inv (s := s3.setGen g .running) T (D3 : Lain Z ip σz (s3.setGen g .running).heap) (fun b hb => (F3 b hb).1) I3r
  have hgen3 : s3.heap.IsGen a g := hgL ((D3.pin (a, go) (by rw [zpn]; exact List.mem_append_left _ List.mem_cons_self)).1)
  have hnol : s3.heap.NoLimit := I3.nolimit
  have hroom : X.A.depth < recursionLimit := hr.depth
  refine GenW.wpAny_gsz (n := g + 1) hgsz (next_leg (F := fun s1 => ∃ ip σ H, L2.Inv (Z.gx (s3.setGen g .running) H3) ip σ H s1 ∧ Z.en i H3 H) hr.hd hnol hroom hgen3 hgs (rise (s3.setGen g .running) H3 (by rw [zwk]; exact hwk) J3) (fun v s4 z hz hy hsz => ?_) fun s4 hF h' hk hsz => ?_)
  · -- an item
    cases n with
    | zero => exact hy.elim
    | succ n =>
      obtain ⟨x, ip', σz', H5, J5, up5, rv, hyi, rise5⟩ := hy
      obtain ⟨lv5, gtx⟩ := hyl x H5 (by rw [← zyl]; exact hyi)
      have hsz4 : g < s4.gens.size := by
        have e : (s4.setGen g z.st).gens.size = s4.gens.size := GenW.setGen_size _ _ _
        have h2 : g + 1 ≤ (s4.setGen g z.st).gens.size := hsz
        omega
      have I5 : L2.Inv X pins σ3 H5 (s4.setGen g z.st) := back_inv (s0 := s3.setGen g .running) T I3 rfl rfl J5 lv5 (by show (!z.cl) = true; rw [hz]; rfl)
      have D5 : Lain Z ip' σz' s4.heap := lain_of J5 up5
      have F5 := fp_ok T I3 D5 J5
      have hgo5 : s4.heap.get? a = some go := (D5.pin (a, go) (by rw [zpn]; exact List.mem_append_left _ List.mem_cons_self)).1
      refine go_of (s := s4.setGen g z.st) hgo5 hcls hdat (by decide) ?_
      have I5p := Inv.pinned I5 F5 (D5.obj : ∀ b ∈ Z.fp ip', ∃ o, (s4.setGen g z.st).heap.get? b = some o ∧ ∀ v, o.data ≠ .cell v)
      generalize hs5 : s4.setGen g z.st = s5 at I5 I5p
      have hg5 : s5.gens[g]? = some z.st := by rw [← hs5]; exact gens_in hsz4
      have hp5 : s5.heap = s4.heap := by rw [← hs5]; rfl
      have α5 : restsOf s5 g = some z := by unfold restsOf; rw [hg5]; rfl
      have Ih : L2.Inv X (pins ++ pinsAt (Z.fp ip') s5.heap) σ3 H5 (hush s5) := Inv.tab I5p rfl rfl (bare_hush I5p.bare)
      have q1 := wpAny_sleep (calm_hush s5) (hg.run _ (hush s5) σ3 H5 x v _ Ih rv gtx)
      rw [put_hush] at q1
      refine wpAny_mono q1 (fun _ s6 h6 => ?_) fun e s6 h6 => ?_
      · obtain ⟨s6', rfl, C6, σ6, H6, I6, q6⟩ := h6
        refine wpAny_mono (wpAny_sleep C6 (hb.run _ s6' σ6 H6 _ I6 q6)) (fun f s7 h7 => ?_) fun e s7 h7 => ?_
        · obtain ⟨s7', rfl, C7, h7⟩ := h7
          have hg7 : (put (restsOf s5) s7').gens[g]? = some z.st := by rw [put_get, C7.at_ g z α5, α5]; rfl
          have again : ∀ {σ7 : L2.St} {H7 : Hp}, L2.Inv X (pins ++ pinsAt (Z.fp ip') s5.heap) σ7 H7 s7' → W (i + 1) H5 σ7 H7 → ∃ m, m < n + 1 ∧ ∃ i σ' H' Hy gs ip σz, i + m = Z.most ∧ L2.Inv X pins σ' H' (put (restsOf s5) s7') ∧ W i Hy σ' H' ∧ (put (restsOf s5) s7').gens[g]? = some gs ∧ Lain Z ip σz (put (restsOf s5) s7').heap ∧ (∀ b ∈ Z.fp ip, FpOk X pins H' b) ∧
              ∀ s'' H'', Z.wk Hy H'' → L2.Inv (Z.gx s'' H'') ip σz H'' s'' → Rises (model X.prog X.w) X.A.in1 (Z.R i s'' H'') (Z.Y m i s'' H'') gs (.send .none) s'' := fun {σ7 H7} I7 w7 => by
            have kp : ∀ b ∈ Z.fp ip', ∀ o, s4.heap.get? b = some o → s7'.heap.get? b = some o ∧ H7 b = none := fun b hb o e => by
              have q := I7.pin (b, o) (List.mem_append_right _ (List.mem_append_right _ (mem_pinsAt hb (by rw [hp5]; exact e))))
              exact ⟨q.1, q.2.1⟩
            refine ⟨n, Nat.lt_succ_self _, i + 1, σ7, H7, H5, z.st, ip', σz', by omega, up_inv I7.unpinned, w7, hg7, D5.keep T.cells fun b hb o e => (kp b hb o e).1, fun b hb => ?_, fun s'' H'' hw hI => ?_⟩
            · obtain ⟨o, e, _⟩ := D5.obj b hb
              exact ⟨(kp b hb o e).2, (F5 b hb).2⟩
            · have q := rise5 s'' H'' hw hI
              rw [zP, zA] at q
              exact q
          cases f with
          | next => obtain ⟨σ7, H7, I7, n7⟩ := h7; exact again I7 n7
          | cont => obtain ⟨σ7, H7, I7, n7⟩ := h7; exact again I7 n7
          | brk => obtain ⟨σ7, H7, I7, q7⟩ := h7; exact ⟨σ7, H7, up_inv I7.unpinned, q7⟩
          | ret v7 => obtain ⟨x7, σ7, H7, I7, r7, q7⟩ := h7; exact ⟨x7, σ7, H7, up_inv I7.unpinned, r7, q7⟩
        · obtain ⟨s7', _, _, h7⟩ := h7
          exact (hxe e s7' h7).elim
      · obtain ⟨s6', _, _, h6⟩ := h6
        exact (hxe e s6' h6).elim
  · -- the end
    obtain ⟨ip', σz', H5, J5, he⟩ := hF
    obtain ⟨lv5, qn⟩ := hen H5 (by rw [← zen]; exact he)
    have I5 : L2.Inv X pins σ3 H5 (s4.setGen g .finished) := back_inv (s0 := s3.setGen g .running) T I3 rfl rfl J5 lv5 rfl
    have I6 : L2.Inv X pins σ3 H5 { s4.setGen g .finished with heap := h' } := I5.kept (t' := s4.toks) fun b o e => hk b o e
    exact wpAny_execs_nil ⟨σ3, H5, I6, qn⟩
end Gw
/-! text Gw7 -/
set_option maxHeartbeats 1000000
/-! Gw7: a generator def's promise, by its body; its call. -/
namespace Gw
open PySem PyProof.Rows L2
open Sem (wp)
theorem leg_func {P : Program} {w : World} {A : Around} {R : Result → Shared → Prop} {Y : Value → GenState → Shared → Prop} {fs : List Frame} {s : Shared} {env : Env} {body : List Stmt}
    (h : ∀ J, Leg (model P w) A R Y (.func body env) ((execs body env).wrap (fun f => .pure (.done (.ret (match f with | .ret v => v | _ => .none)))) J id id) fs s) : Leg (model P w) A R Y (.func body env) ((model P w).den (.func body env)) fs s := by
  show Leg (model P w) A R Y _ (.point [] fun _ => ((execs body env).onRaise (leaving env)) >>= _) fs s
  refine leg_point ?_
  rw [Sem.onRaise_eq_wrap, Sem.bind_eq_wrap', Sem.wrap_wrap]
  rw [Sem.wrap_congr (execs body env) _ _ (K' := fun f => .pure (.done (.ret (match f with | .ret v => v | _ => .none)))) (fun f => by cases f <;> rfl) (fun e => rfl)]
  exact h _
/-- a generator def -/
structure GZn (P : Program) (w : World) (K : PySem.W.Frag) (mg : Str → Option Value) (base : Heap) (k : Nat) (x : Str) (pre : List V → Hp → Prop) (S : List V → Hp → Spz) : Prop where
  ex : ∃ f, mg x = some (.ref f) ∧ PySem.W.keepIn K (.ref f) = true ∧ ∀ (A : Around) (outer : List Env) (s : Shared) (H : Hp) (us : List Value) (vs : List V), Room k A → Env0 P w K mg base A outer s H → Vals vs us → pre vs H →
    codeAny (model P w) A (.call (.ref f) ⟨us, []⟩) (fun r s' => match r with | .ok (.ret u) => MadeZ P w K mg base k outer H s (S vs H) u s' | _ => False) s
theorem gz_of {P : Program} {w : World} {K : PySem.W.Frag} {mg : Str → Option Value} {base : Heap} {k : Nat} {x : Str} {st : Stmt} {N ps : List Str} {pre : List V → Hp → Prop} {S : List V → Hp → Spz} (d : ∃ f fd, Fun K x x st f fd ∧ mg x = some (.ref f)) (G : GScope N ps (defScope st))
    (hnc : ∀ n, cellsFrom n (defScope st).names [] = []) (hk2 : ∀ y, (defScope st).names.lookup y ≠ some .cell ∧ (defScope st).names.lookup y ≠ some .free)
    (hb : ∀ (kV doc pm : Value) (an : Option Addr) (cdv ct : Value) (us : List Value), us.length = ps.length → bindArgs (PySem.W.fnOf x x (defArgs st) (defBody st) (defScope st) .none kV doc pm an cdv ct) ⟨us, []⟩ = pure (ps.zip us)) (len : ∀ vs H, pre vs H → vs.length = ps.length)
    (hbody : ∀ (f : Addr) (cdv : Value) (A : Around) (outer : List Env) (L a : Addr) (go : Obj) (vs : List V) (H : Hp), Room k (A.deeper (envOfC x (defScope st) L f cdv)) → pre vs H →
      ∃ t, GPs (zedOf P w K mg base N (envOfC x (defScope st) L f cdv) A outer a go (S vs H)) (defBody st) t ∧ ∀ H'', (S vs H).wk H H'' → t { nx := fun i H0 _ H' => (S vs H).en i H0 H', rt := fun i H0 v H' => v = .non ∧ (S vs H).en i H0 H' } 0 H'' (L2.start N vs) H'') :
    GZn P w K mg base (k + 1) x pre S := by
  obtain ⟨f, fd, ⟨⟨oc, od, kV, doc, pm, an, cdv, ct, osl, rfl, lk, hcd⟩, hkp⟩, hm⟩ := d
  refine ⟨f, hm, hkp, fun A outer s H us vs hr e0 r hsp => ?_⟩
  have hl := len _ _ hsp
  have hus : us.length = ps.length := by rw [← r.length]; exact hl
  have KX : K.In s.heap := e0.mod.kin.keeps fun b o e => (e0.bs b o e).1
  have lim : s.heap.NoLimit := e0.mod.nolimit.keeps fun b o e => (e0.bs b o e).1
  have hkind : ∀ y ∈ ps.zip us, (defScope st).names.lookup y.1 = some .local ∨ ((defScope st).names.lookup y.1 = some .cell ∧ ((cellsFrom (s.heap.objs.size + 1) (defScope st).names []).lookup y.1).isSome = true) := fun ⟨n, v⟩ hy => by
    rcases G.par n (List.of_mem_zip hy).1 with q | q
    · exact .inl q
    · exact ((hk2 n).1 q).elim
  refine codeAny_call_generator hr.depth (KX _ _ lk) rfl G.co G.gen rfl (PySem.W.codeRec_of KX hcd) ?_
  show wpAny _ _ (bindArgs _ _) _ _ s
  rw [hb kV doc pm an cdv ct us hus]
  refine wpAny_pure ?_
  refine wpAny_newFunctionEnv_cells G.kind hkind fun env he s1 x1 => ?_
  subst he
  refine ⟨lim.keeps x1.toInCall.keep, ?_⟩
  have I1 := inv_startG (P := P) (w := w) (K := K) (mg := mg) (base := base) (E := fun _ _ _ => False) G hr.hd e0 hl r x1
  obtain ⟨h1, tk, es1, hk1⟩ := x1.done
  have os1 : s1.os = s.os := by rw [es1]
  have lt1 : s.heap.objs.size < s1.heap.objs.size := x1.toInCall.ns.lt
  obtain ⟨m, hns, hlook⟩ := I1.loc
  refine ⟨s1.heap.objs.size, s1.gens.size, _, envOfC x (defScope st) s.heap.objs.size f cdv, N, _, _, _, rfl, rfl, lt1, Heap.get?_push_size _ rfl, rfl, rfl, rfl, Array.getElem?_push_size .., os1, AllBare.push I1.bare rfl, fun b o e => Heap.get?_push_of_some _ (x1.toInCall.keep b o e),
    G.kind, rfl, rfl, rfl, hnc _, (fun y => hk2 y), L2.start N vs, ⟨m, hns.push _, fun i y v q1 q2 q3 => ?_⟩, I1.len, fun Aw hrw hfr s'' H'' hw J => ⟨rfl, ?_⟩⟩
  · obtain ⟨u, hu, hq⟩ := hlook i y v q1 q2 q3
    exact ⟨u, hu, look_at (hnc _) hq⟩
  · obtain ⟨t, ht, hq⟩ := hbody f cdv Aw outer s.heap.objs.size s1.heap.objs.size _ vs H (hrw.deeper _) hsp
    refine leg_func fun Jx => ?_
    refine ht.run [] _ [] _ Jx id id (S vs H).most 0 s'' H'' s'' (L2.start N vs) H'' _ ⟨fun p hp => ?_, GenW.over_func, rfl, rfl, rfl⟩ ⟨Nat.zero_add _, Nat.le_of_lt J.lt⟩ (fun m' i' s0 H0 s4 fl hm hs => ?_) J (hq H'' hw)
    · have hp' : p.1 = s1.heap.objs.size := by
        rcases List.mem_append.mp hp with z | z
        · rw [List.mem_singleton.mp z]
        · cases z
      rw [hp']
      exact Nat.le_of_lt lt1
    · cases fl with
      | next =>
        obtain ⟨σ', H', hI, hQ⟩ := hs
        exact leg_end (.ok (.ret .none)) ⟨.inl rfl, [], σ', H', hI, hQ⟩
      | brk => obtain ⟨_, _, _, q⟩ := hs; exact False.elim q
      | cont => obtain ⟨_, _, _, q⟩ := hs; exact False.elim q
      | ret u =>
        obtain ⟨v, σ', H', hI, rv, ev, hQ⟩ := hs
        subst ev
        have eu : u = Value.none := rv
        subst eu
        exact leg_end (.ok (.ret .none)) ⟨.inl rfl, [], σ', H', hI, hQ⟩
section
variable {X : Cx} {k j : Nat} {x : Str} {pre : List V → Hp → Prop} {S : List V → Hp → Spz} {p pos : Pos} {e : Expr} {es : List Expr} {t : TA}
theorem run_gz {pins : List (Addr × Obj)} {σ : L2.St} {H : Hp} {s : Shared} {us : List Value} {vs : List V} {f : Addr} {E1 : Value → Shared → Prop} {Q : Spz → Hp → Prop}
    (F : ∀ (A : Around) (outer : List Env) (s : Shared) (H : Hp) (us : List Value) (vs : List V), Room k A → Env0 X.prog X.w X.K X.mg X.base A outer s H → Vals vs us → pre vs H →
      codeAny (model X.prog X.w) A (.call (.ref f) ⟨us, []⟩) (fun r s' => match r with | .ok (.ret u) => MadeZ X.prog X.w X.K X.mg X.base k outer H s (S vs H) u s' | _ => False) s)
    (hr : Room k X.A) (I : L2.Inv X pins σ H s) (r : Vals vs us) (h : pre vs H) (q : Q (S vs H) H) :
    wpAny (model X.prog X.w) X.A (call (.ref f) us) (fun u s' => ∃ H1 sc S, L2.Inv X pins σ H1 sc ∧ MadeZ X.prog X.w X.K X.mg X.base k X.stack H1 sc S u s' ∧ Q S H1) E1 s := by
  refine wpAny_call (codeAny_mono (F X.A X.stack s H us vs hr I.env0 r h) fun r s' hq => ?_)
  cases r with
  | error e => exact False.elim hq
  | ok fl =>
    cases fl with
    | ret u => exact ⟨H, s, S vs H, I, hq, q⟩
    | next => exact False.elim hq
    | brk => exact False.elim hq
    | cont => exact False.elim hq
theorem pm_call0 (F : GZn X.prog X.w X.K X.mg X.base k x pre S) (hr : Room k X.A) (hg : Gl X x) (hdb : (x == ("__debug__" : Str)) = false := by decide) : PMk X k (.Call (.Name x p) [] [] pos) (fun σ H Q => pre [] H ∧ Q (S [] H) H) := by
  obtain ⟨f, hm, hkp, F⟩ := F.ex
  refine ⟨fun pins s σ H Q I h => ?_⟩
  refine wpAny_Call_Name_kw (ld_glob I hg hm ?_ hdb)
  exact PySem.W.callWith_K0 (first := []) I.kIn hkp (run_gz F hr I .nil h.1 h.2)
theorem pm_call (F : GZn X.prog X.w X.K X.mg X.base k x pre S) (hr : Room k X.A) (hg : Gl X x) (ha : PA X (e :: es) t) (hdb : (x == ("__debug__" : Str)) = false := by decide)
    (he : starEach (e :: es) X.env = (false, eval e X.env) :: starEach es X.env := by rfl) (hpl : (backTo pos (starEach es X.env)).any (·.1) = false := by rfl) :
    PMk X k (.Call (.Name x p) (e :: es) [] pos) (fun σ H Q => t σ H fun vs H1 => pre vs H1 ∧ Q (S vs H1) H1) := by
  obtain ⟨f, hm, hkp, F⟩ := F.ex
  refine ⟨fun pins s σ H Q I h => ?_⟩
  refine wpAny_Call_Name_kw (ld_glob I hg hm ?_ hdb)
  refine PySem.W.callWith_K (h₀ := X.base) I.ok.mod.kin hkp (thn (ha.run pos pins s σ H _ I h) fun us s1 ⟨vs, H1, I1, r, q⟩ => ⟨I1.kIn, ?_⟩) he hpl
  exact run_gz F hr I1 r q.1 q.2
end
end Gw
/-! text Gw8 -/
set_option maxHeartbeats 1000000
/-! Gw8: for x in g(..), each item frozen data. -/
namespace Sw
open PySem L2
def nowt : Hp := fun _ => none
theorem core_up {F H H' : Hp} {L : List En} (c : Core ⟨nowt, H, []⟩ H' L) (hF : Same F H) : Core ⟨F, H, []⟩ H' L := by
  obtain ⟨F', fs, c⟩ := c
  have kp : ∀ x o, H x = some o → H' x = some o := fun x o h => c.kp x o h (by simp)
  have nc : ∀ x o, F x = some o → F' x = none := fun x o h => c.nc x o rfl (hF x o h)
  have s1 : Same F' (fun x => match F x with | some o => some o | none => F' x) := fun x o h => by
    show (match F x with | some o => some o | none => F' x) = some o
    cases q : F x with
    | none => exact h
    | some u => rw [nc x u q] at h; cases h
  refine ⟨fun x => match F x with | some o => some o | none => F' x, fs, fun x o h => ?_, fun x o h => ?_, c.kp, c.lv, fun x o h1 h2 => ?_, c.il, c.sl.stab s1 fun _ _ => rfl, c.nd, fun p hp => ?_⟩
  · show (match F x with | some o => some o | none => F' x) = some o
    rw [show F x = some o from h]
  · have h' : (match F x with | some o => some o | none => F' x) = some o := h
    cases q : F x with
    | none => rw [q] at h'; exact c.fh x o h'
    | some u => rw [q] at h'; cases h'; exact kp x o (hF x o q)
  · show (match F x with | some o => some o | none => F' x) = none
    rw [show F x = none from h1]
    exact c.nc x o rfl h2
  · obtain ⟨h1, h2, h3⟩ := c.ow p hp
    refine ⟨?_, h2, h3⟩
    show (match F p with | some o => some o | none => F' p) = none
    cases q : F p with
    | none => exact h1
    | some u =>
      rcases h3 with z | z
      · cases z
      · have := hF p u q
        rw [show H p = none from z] at this; cases this
theorem core_item {B : Bas} {H H' : Hp} {L Lo : List En} (c : Core B H L) (y : Core ⟨nowt, H, []⟩ H' Lo) : Core B H' (Lo ++ L) := by
  obtain ⟨F, fi, p, k⟩ := Core.frame (Li := []) (Lr := L) c (fun e he => nomatch he)
  cases fi with
  | nil => exact k H' Lo (core_up y p.fh)
  | cons fp fs => exact p.sl.elim
/-- the items xs, each as R says, nothing else -/
def spz {α : Type} (xs : List α) (R : α → SV) : Gw.Spz :=
  ⟨xs.length, fun i H0 x H1 => ∃ a, xs[i]? = some a ∧ Core ⟨nowt, H0, []⟩ H1 [(some x, R a)], fun i H0 H1 => i = xs.length ∧ H1 = H0, fun _ _ => True⟩
theorem ex_forZ {α : Type} {B : Bas} {ρ : List SV} {N : Kn} {j : Nat} {tm : Gw.TMk} {tb : TS} {xs : List α} {R : α → SV} (htm : ∀ σ H (Q : Gw.Spz → Hp → Prop), Q (spz xs R) H → tm σ H Q) (Iv : Nat → List SV → Prop) (h0 : Iv 0 ρ) (hj : ∀ i ρ, Iv i ρ → j < ρ.length)
    (hs : ∀ i x ρ, xs[i]? = some x → Iv i ρ → ExS B (ρ.set j (R x)) tb { N with nx := Iv (i + 1), ct := Iv (i + 1), bk := N.nx }) (hd : ∀ ρ, Iv xs.length ρ → N.nx ρ) : ExS B ρ (Gw.tForZ tm (gName j) tb) N := fun H σ τ D st k1 k2 k3 k4 => by
  refine htm σ H _ ⟨fun i _ σ' H' => ∃ ρ', Iv i ρ' ∧ St B H' σ' ρ' τ, ⟨ρ, h0, st⟩, ?_⟩
  rintro i Hy σ' H' hi ⟨ρ', iv, st'⟩
  refine ⟨trivial, fun x H2 hy => ?_, fun H2 he => ?_⟩
  · obtain ⟨a, ha, hc⟩ := hy
    refine ⟨fun b u hb => ?_, ?_⟩
    · obtain ⟨F, fs, c⟩ := hc
      exact c.lv b u hb
    · have c2 := core_item st'.core hc
      exact hs i a ρ' ha iv H2 _ τ _ (St.asg ⟨st'.len, c2⟩ (hj i ρ' iv)) (fun ρ2 H2 σ2 iv2 st2 => ⟨ρ2, iv2, st2⟩) k2 (fun ρ2 H2 σ2 k st2 => k1 ρ2 H2 σ2 k st2) (fun ρ2 H2 σ2 iv2 st2 => ⟨ρ2, iv2, st2⟩)
  · obtain ⟨rfl, rfl⟩ := he
    exact ⟨fun b u hb => ⟨u, hb⟩, k1 ρ' H2 σ' (hd ρ' iv) st'⟩
end Sw
/-! text Sw22 -/
set_option maxHeartbeats 4000000
/-! Sw22: owned objects lent to an expression; what is known only in part. -/
namespace Sw
open PySem L2
variable {α β γ δ κ : Type}
section
variable {B : Bas} {H H' : Hp} {σ : L2.St} {ρ ρ1 ρ2 ρ3 ρ' : List SV} {τ : List En} {L : List En} {R S1 S2 S s : SV} {ta tb te tl td tk tv : TE} {tt tu : TT} {as : TA} {a : α} {b : β} {c : γ} {T : Ty α} {U : Ty β} {W : Ty γ} {i j : Nat} {K : PySem.W.Frag} {N : Kn} {A : Type}
/-- it owns nothing -/
def Frz (s : SV) : Prop := ∀ {io : List Addr} {F H : Hp} {v : Option V} {fp : List Addr}, s.ok io F H v fp → fp = []
theorem frz_dat {T : Ty α} {a : α} : Frz (dat T a) := fun h => h.1
theorem frz_any : Frz any := fun h => h
theorem frz_isv {x : V} : Frz (isv x) := fun h => h.1
/-- how a row of slots is lent: which ones; the others own nothing, or do not hang on them -/
inductive Lns : List SV → List SV → List Bool → Prop
  | nil : Lns [] [] []
  | keep {s : SV} {ρ ρ' : List SV} {bs : List Bool} (h : Era s) (r : Lns ρ ρ' bs) : Lns (s :: ρ) (s :: ρ') (false :: bs)
  | still {s : SV} {ρ ρ' : List SV} {bs : List Bool} (h : Frz s) (r : Lns ρ ρ' bs) : Lns (s :: ρ) (s :: ρ') (false :: bs)
  | lend {s s' : SV} {ρ ρ' : List SV} {bs : List Bool} (h : Brw s s') (r : Lns ρ ρ' bs) : Lns (s :: ρ) (s' :: ρ') (true :: bs)
theorem Lns.lnd {ρ ρb : List SV} {bs : List Bool} (h : Lns ρ ρb bs) : Lnd ρ ρb bs := by
  induction h with
  | nil => exact .nil
  | keep _ _ ih => exact .keep ih
  | still _ _ ih => exact .keep ih
  | lend h _ ih => exact .lend h ih
theorem lns_sl {io io1 io2 : List Addr} {F F1 F2 : Hp} {ρ ρ' : List SV} {bs : List Bool} (b : Lns ρ ρ' bs) : ∀ {σ : L2.St} {fs gs : List (List Addr)}, σ.length = ρ.length → (∀ s ∈ ρ, Fr s) → Sl io F H (σ.zip ρ) fs → Sl io1 F1 H' (σ.zip ρ') gs →
    Same F F2 → Cut F1 F2 → (∀ p ∈ lentF bs fs, H' p = H p) → (∀ p ∈ gs.flatten, p ∉ io1 → p ∉ io2) → Sl io2 F2 H' (σ.zip ρ) (backF bs fs gs) := by
  induction b with
  | nil =>
    intro σ fs gs hl _ _ _ _ _ _ _
    cases σ with
    | nil => trivial
    | cons _ _ => cases hl
  | keep e r ih =>
    intro σ fs gs hl hf h k m c hp hi
    match σ, fs, gs, hl, h, k with
    | v :: σ, fp :: fs, gp :: gs, hl, h, k => exact ⟨SV.ioch _ (e c k.1) fun p hq => hi p (by rw [List.flatten_cons]; exact List.mem_append_left _ hq), ih (by simpa using hl) (fun s hs => hf s (List.mem_cons_of_mem _ hs)) h.2 k.2 m c hp fun p hq => hi p (by rw [List.flatten_cons]; exact List.mem_append_right _ hq)⟩
  | still e r ih =>
    intro σ fs gs hl hf h k m c hp hi
    match σ, fs, gs, hl, h, k with
    | v :: σ, fp :: fs, gp :: gs, hl, h, k =>
      obtain rfl := e h.1
      obtain rfl := e k.1
      exact ⟨hf _ List.mem_cons_self (SV.stab _ h.1 m fun p hq => nomatch hq), ih (by simpa using hl) (fun s hs => hf s (List.mem_cons_of_mem _ hs)) h.2 k.2 m c hp fun p hq => hi p (by rw [List.flatten_cons]; exact List.mem_append_right _ hq)⟩
  | lend e r ih =>
    intro σ fs gs hl hf h k m c hp hi
    match σ, fs, gs, hl, h, k with
    | v :: σ, fp :: fs, gp :: gs, hl, h, k => exact ⟨e.val h.1 k.1 m fun p hq => hp p (List.mem_append_left _ hq), ih (by simpa using hl) (fun s hs => hf s (List.mem_cons_of_mem _ hs)) h.2 k.2 m c (fun p hq => hp p (List.mem_append_right _ hq)) fun p hq => hi p (by rw [List.flatten_cons]; exact List.mem_append_right _ hq)⟩
open Classical in
theorem lend_core {ρb : List SV} {bs : List Bool} (l' : Lns ρ ρb bs) (hf : ∀ s ∈ ρ, Fr s) (st : St B H σ ρ τ) : ∃ B' : Bas, (∀ p, p ∈ B'.io → B'.H0 p ≠ none) ∧ St B' H σ ρb [] ∧
    ∀ (H' : Hp) (T0 : List En), (∀ e ∈ T0, Era e.2) → St B' H' σ ρb T0 → St B H' σ ρ (T0 ++ τ) := by
  have l := l'.lnd
  have hfz : ∀ e ∈ σ.zip ρ, Fr e.2 := fun e he => hf e.2 (List.of_mem_zip (a := e.1) (b := e.2) he).2
  obtain ⟨F, fi, pr, k⟩ := (st.core.perm List.perm_append_comm).frame hfz
  have hl := st.len
  have m0 := pr.fh
  let F1 : Hp := fun y => if y ∈ lentF bs fi then H y else F y
  have zo := lnd_zo l hl pr.sl
  have sF1 : Same F F1 := fun x u e => by
    show (if x ∈ lentF bs fi then H x else F x) = some u
    by_cases hx : x ∈ lentF bs fi
    · rw [if_pos hx]; exact m0 x u e
    · rw [if_neg hx]; exact e
  have sF1H : Same F1 H := fun x u e => by
    have e' : (if x ∈ lentF bs fi then H x else F x) = some u := e
    by_cases hx : x ∈ lentF bs fi
    · rw [if_pos hx] at e'; exact e'
    · rw [if_neg hx] at e'; exact m0 x u e'
  have F1l : ∀ p ∈ lentF bs fi, ∀ o, H p = some o → F1 p = some o := fun p hp o ho => by
    show (if p ∈ lentF bs fi then H p else F p) = some o
    rw [if_pos hp]; exact ho
  have F1r : ∀ p ∈ (restF bs fi).flatten, F1 p = none := fun p hp => by
    show (if p ∈ lentF bs fi then H p else F p) = none
    rw [if_neg fun z => lent_rest pr.nd z hp]
    exact (pr.ow p (restF_sub hp)).1
  have pr1 : Pre F1 H (σ.zip ρb) (restF bs fi) := ⟨sF1H, lnd_sl l hl pr.sl hfz sF1 sF1H F1l, restF_nd pr.nd, fun p hp => ⟨F1r p hp, (pr.ow p (restF_sub hp)).2⟩⟩
  have lb : ρb.length = ρ.length := by
    have : ∀ {ρ ρb : List SV} {bs : List Bool}, Lnd ρ ρb bs → ρb.length = ρ.length := fun l => by
      induction l with
      | nil => rfl
      | keep _ ih => simp [ih]
      | lend _ _ ih => simp [ih]
    exact this l
  -- the way back
  have back : ∀ {H' : Hp} {T0 : List En}, (∀ e ∈ T0, Era e.2) → Core ⟨F1, H, (restF bs fi).flatten⟩ H' (T0 ++ σ.zip ρb) → Core ⟨F, H, fi.flatten⟩ H' (T0 ++ σ.zip ρ) := by
    intro H' T0 hT c
    obtain ⟨F', gs, c⟩ := c
    obtain ⟨gT, g1, rfl, sT, s1⟩ := Sl.split c.sl
    have cfr : Same F1 F' := c.fr
    have ckp : ∀ x o, H x = some o → x ∉ (restF bs fi).flatten → H' x = some o := c.kp
    have clv : ∀ x o, H x = some o → ∃ o', H' x = some o' := c.lv
    have cnc : ∀ x o, F1 x = none → H x = some o → F' x = none := c.nc
    have cow : ∀ p ∈ (gT ++ g1).flatten, F' p = none ∧ (∃ o, H' p = some o) ∧ (p ∈ (restF bs fi).flatten ∨ H p = none) := c.ow
    have lentSome : ∀ p ∈ lentF bs fi, ∃ o, H p = some o ∧ F1 p = some o ∧ F' p = some o ∧ ZO o := fun p hp => by
      obtain ⟨o, ho, z⟩ := zo p hp
      exact ⟨o, ho, F1l p hp o ho, cfr p o (F1l p hp o ho), z⟩
    let F2 : Hp := fun y => if y ∈ lentF bs fi then none else F' y
    have notin : ∀ p ∈ lentF bs fi, p ∉ (gT ++ g1).flatten := fun p hp z => by
      obtain ⟨o, _, _, h3, _⟩ := lentSome p hp
      rw [(cow p z).1] at h3; cases h3
    have lnone : ∀ p ∈ lentF bs fi, F p = none := fun p hp => (pr.ow p (lentF_sub hp)).1
    have sFF2 : Same F F2 := fun x u e => by
      show (if x ∈ lentF bs fi then none else F' x) = some u
      rw [if_neg fun z => by rw [lnone x z] at e; cases e]
      exact cfr x u (sF1 x u e)
    have cut : Cut F' F2 := fun y o e => by
      by_cases hy : y ∈ lentF bs fi
      · obtain ⟨o', _, _, h3, z⟩ := lentSome y hy
        rw [e] at h3
        cases h3
        exact .inr z
      · exact .inl (by show (if y ∈ lentF bs fi then none else F' y) = some o; rw [if_neg hy]; exact e)
    have hH : ∀ p ∈ lentF bs fi, H' p = H p := fun p hp => by
      obtain ⟨o, ho, _⟩ := lentSome p hp
      rw [ho]
      exact ckp p o ho (lent_rest pr.nd hp)
    have hio : ∀ p ∈ (gT ++ g1).flatten, p ∉ (restF bs fi).flatten → p ∉ fi.flatten := fun p hp hn hi => by
      rcases (cow p hp).2.2 with h | h
      · exact hn h
      · obtain ⟨o, ho⟩ := (pr.ow p hi).2
        rw [h] at ho; cases ho
    have hio1 : ∀ p ∈ g1.flatten, p ∉ (restF bs fi).flatten → p ∉ fi.flatten := fun p hp => hio p (by rw [List.flatten_append]; exact List.mem_append_right _ hp)
    have slT : ∀ {T0 : List En} {gT : List (List Addr)}, (∀ e ∈ T0, Era e.2) → (∀ p ∈ gT.flatten, p ∉ (restF bs fi).flatten → p ∉ fi.flatten) → Sl (restF bs fi).flatten F' H' T0 gT → Sl fi.flatten F2 H' T0 gT := by
      intro T0
      induction T0 with
      | nil => intro gT _ _ h; cases gT with
        | nil => trivial
        | cons _ _ => exact h.elim
      | cons e T0 ih => intro gT hT hi h; cases gT with
        | nil => exact h.elim
        | cons gp gT => exact ⟨SV.ioch _ (hT e List.mem_cons_self cut h.1) fun p hq => hi p (by rw [List.flatten_cons]; exact List.mem_append_left _ hq), ih (fun e he => hT e (List.mem_cons_of_mem _ he)) (fun p hq => hi p (by rw [List.flatten_cons]; exact List.mem_append_right _ hq)) h.2⟩
    have nd := c.nd
    rw [List.flatten_append] at nd
    obtain ⟨n1, n2, n3⟩ := List.nodup_append.mp nd
    have inT : ∀ p ∈ gT.flatten, p ∈ (gT ++ g1).flatten := fun p hp => by rw [List.flatten_append]; exact List.mem_append_left _ hp
    have in1 : ∀ p ∈ g1.flatten, p ∈ (gT ++ g1).flatten := fun p hp => by rw [List.flatten_append]; exact List.mem_append_right _ hp
    refine ⟨F2, gT ++ backF bs fi g1, sFF2, fun x u e => ?_, fun x u h1 h2 => ckp x u h1 fun z => h2 (restF_sub z), clv, fun x u h1 h2 => ?_, fun p hp => (pr.ow p hp).2, ?_, ?_, fun p hp => ?_⟩
    · have e' : (if x ∈ lentF bs fi then none else F' x) = some u := e
      by_cases hx : x ∈ lentF bs fi
      · rw [if_pos hx] at e'; cases e'
      · rw [if_neg hx] at e'; exact c.fh x u e'
    · show (if x ∈ lentF bs fi then none else F' x) = none
      by_cases hx : x ∈ lentF bs fi
      · rw [if_pos hx]
      · rw [if_neg hx]
        exact cnc x u (by show (if x ∈ lentF bs fi then H x else F x) = none; rw [if_neg hx]; exact h1) h2
    · exact Sl.append (slT hT (fun p hp => hio p (inT p hp)) sT) (lns_sl l' hl hf pr.sl s1 sFF2 cut hH hio1)
    · rw [List.flatten_append]
      refine List.nodup_append.mpr ⟨n1, backF_nd pr.nd n2 (fun p hp z => notin p hp (in1 p z)), fun x hx y hy e => ?_⟩
      subst e
      rcases backF_sub hy with z | z
      · exact notin x z (inT x hx)
      · exact n3 x hx x z rfl
    · have key : p ∈ lentF bs fi ∨ p ∈ (gT ++ g1).flatten := by
        rw [List.flatten_append] at hp
        rcases List.mem_append.mp hp with hp | hp
        · exact .inr (inT p hp)
        · exact (backF_sub hp).imp id (in1 p)
      rcases key with z | z
      · obtain ⟨o, ho, _⟩ := lentSome p z
        refine ⟨by show (if p ∈ lentF bs fi then none else F' p) = none; rw [if_pos z], ?_, .inl (lentF_sub z)⟩
        rw [hH p z]; exact ⟨o, ho⟩
      · obtain ⟨a1, a2, a3⟩ := cow p z
        refine ⟨by show (if p ∈ lentF bs fi then none else F' p) = none; rw [if_neg fun q => notin p q z]; exact a1, a2, ?_⟩
        exact a3.imp restF_sub id
  have hio0 : ∀ p, p ∈ (restF bs fi).flatten → H p ≠ none := fun p hp e => by
    obtain ⟨o, ho⟩ := (pr.ow p (restF_sub hp)).2
    rw [e] at ho; cases ho
  refine ⟨⟨F1, H, (restF bs fi).flatten⟩, hio0, ⟨by rw [lb]; exact hl, pr1.core⟩, fun H' T0 hT st' => ⟨hl, ?_⟩⟩
  have c := k H' _ (back (T0 := T0) hT st'.core)
  refine c.perm ?_
  rw [List.append_assoc, List.append_assoc]
  exact List.Perm.append_left T0 List.perm_append_comm
/-- an expression that is lent what others own -/
theorem ev_lend {ρb : List SV} {bs : List Bool} (l : Lns ρ ρb bs) (hf : ∀ s ∈ ρ, Fr s) (hR : Era R) (h : ∀ B' : Bas, EvE B' ρb te R ρb) : EvE B ρ te R ρ := fun H σ τ Q st q => by
  obtain ⟨B', _, st', back⟩ := lend_core l hf st
  exact h B' H σ [] Q st' fun v H' st2 => q v H' (back H' [(some v, R)] (fun e he => by rw [List.mem_singleton.mp he]; exact hR) st2)
theorem et_lend {ρb : List SV} {bs : List Bool} {k : Bool} (l : Lns ρ ρb bs) (hf : ∀ s ∈ ρ, Fr s) (h : ∀ B' : Bas, EvT B' ρb tt k ρb) : EvT B ρ tt k ρ := fun H σ τ Q st q => by
  obtain ⟨B', _, st', back⟩ := lend_core l hf st
  exact h B' H σ [] Q st' fun H' st2 => q H' (back H' [] (fun e he => nomatch he) st2)
/-- a Ty whose things do not hang on the heap -/
def Flat (T : Ty α) (a : α) : Prop := ∀ F F' v, T.rep F v a → T.rep F' v a
theorem flt_str {s : Str} : Flat tStr s := fun _ _ _ h => h
theorem flt_int {s : Int} : Flat tInt s := fun _ _ _ h => h
theorem flt_bl {s : Bool} : Flat tBl s := fun _ _ _ h => h
def FlatD (ds : List (Str × Dt)) : Prop := ∀ d ∈ ds, ∀ F F' v, d.2.rep F v → d.2.rep F' v
theorem fsR_flat {F F' : Hp} {fs : List (Str × V)} {ds : List (Str × Dt)} (h : FlatD ds) (r : FsR F fs ds) : FsR F' fs ds := by
  induction r with
  | nil => exact .nil
  | cons q _ ih => exact .cons ⟨q.1, h _ List.mem_cons_self F F' _ q.2⟩ (ih fun d hd => h d (List.mem_cons_of_mem _ hd))
theorem era_ownI {C : Addr} {x : V} {ds : List (Str × Dt)} (h : FlatD ds) : Era (own x (oIns C) ds) := fun _ ⟨h1, p, dx, fs, h2, h3, h4, h5⟩ => ⟨h1, p, dx, fs, h2, h3, h4, fsR_flat h h5⟩
theorem era_freI {C : Addr} {ds : List (Str × Dt)} (h : FlatD ds) : Era (fre (oIns C) ds) := fun _ ⟨x, h1, ⟨p, dx, fs, h2, h3, h4, h5⟩, h6⟩ => ⟨x, h1, ⟨p, dx, fs, h2, h3, h4, fsR_flat h h5⟩, h6⟩
theorem pair_flat {T : Ty α} {F F' : Hp} {vs : List V} {xs : List α} (h : ∀ a ∈ xs, Flat T a) (r : Paired (T.rep F) vs xs) : Paired (T.rep F') vs xs := by
  induction r with
  | nil => exact .nil
  | cons q _ ih => exact .cons (h _ List.mem_cons_self F F' _ q) (ih fun a ha => h a (List.mem_cons_of_mem _ ha))
theorem era_freL {T : Ty α} {xs : List α} (h : ∀ a ∈ xs, Flat T a) : Era (fre (oList T) xs) := fun _ ⟨x, h1, ⟨p, vs, h2, h3, h4, h5⟩, h6⟩ => ⟨x, h1, ⟨p, vs, h2, h3, h4, pair_flat h h5⟩, h6⟩
theorem era_ownL {T : Ty α} {x : V} {xs : List α} (h : ∀ a ∈ xs, Flat T a) : Era (own x (oList T) xs) := fun _ ⟨h1, p, vs, h2, h3, h4, h5⟩ => ⟨h1, p, vs, h2, h3, h4, pair_flat h h5⟩
/-- an owned object moved out of its slot -/
theorem ev_mv {x : V} {O : OTy α} (h : ρ[i]? = some (own x O a)) : EvE B ρ (tVar i) (own x O a) (ρ.set i any) := fun H σ τ Q st q => by
  obtain ⟨v, e, l, p1, p2, _⟩ := zip_perm st.len h
  have c := st.core.perm (perm_top τ p1)
  have hv : v = some x := by
    obtain ⟨F, fs, c⟩ := c
    cases fs with
    | nil => exact c.sl.elim
    | cons fp fs => exact c.sl.1.1
  subst hv
  refine ⟨x, e, q x H ⟨by rw [List.length_set]; exact st.len, ?_⟩⟩
  have c2 : Core B H ((some x, any) :: (some x, own x O a) :: (τ ++ l)) := c.add fun _ _ _ => rfl
  have p3 := perm_top ((some x, own x O a) :: τ) (p2 any)
  exact c2.perm p3.symm
theorem ev_isNv {x : V} (h : EvE B ρ te (isv x) ρ1) (hx : x ≠ .non) : EvE B ρ (tOp (fun x y H Q => y = .non ∧ Q (.bl (decide (x = .non))) H) te (tC .non)) (dat tBl false) ρ1 := fun H σ τ Q st q =>
  h H σ τ _ st fun v H1 st1 => by
    have ev := st1.core.i1
    cases ev
    refine ⟨rfl, ?_⟩
    rw [decide_eq_false hx]
    exact q _ H1 ⟨st1.len, st1.core.cut.sc sc_bl⟩
theorem ev_notNv {x : V} (h : EvE B ρ te (isv x) ρ1) (hx : x ≠ .non) : EvE B ρ (tOp (fun x y H Q => y = .non ∧ Q (.bl (!decide (x = .non))) H) te (tC .non)) (dat tBl true) ρ1 := fun H σ τ Q st q =>
  h H σ τ _ st fun v H1 st1 => by
    have ev := st1.core.i1
    cases ev
    refine ⟨rfl, ?_⟩
    rw [decide_eq_false hx]
    exact q _ H1 ⟨st1.len, st1.core.cut.sc sc_bl⟩
/-- a slot of which more is known from here on -/
theorem ex_know {t : TS} {s : SV} {A : Type} {s' : A → SV} (h : ρ[i]? = some s) (ho : ∀ F H v fp, Same F H → s.ok B.io F H v fp → ∃ a, (s' a).ok B.io F H v fp) (k : ∀ a, ExS B (ρ.set i (s' a)) t N) : ExS B ρ t N := fun H σ τ D st => by
  obtain ⟨v, e, l, p1, p2, _⟩ := zip_perm st.len h
  have c := st.core.perm (perm_top τ p1)
  have key : ∃ a, Core B H ((v, s' a) :: (τ ++ l)) := by
    obtain ⟨F, fs, c⟩ := c
    cases fs with
    | nil => exact c.sl.elim
    | cons fp fs =>
      obtain ⟨a, ha⟩ := ho F H v fp c.fh c.sl.1
      exact ⟨a, F, fp :: fs, c.fr, c.fh, c.kp, c.lv, c.nc, c.il, ⟨ha, c.sl.2⟩, c.nd, c.ow⟩
  obtain ⟨a, c2⟩ := key
  exact k a H σ τ D ⟨by rw [List.length_set]; exact st.len, c2.perm (perm_top τ (p2 (s' a))).symm⟩
theorem ex_openD {t : TS} {P : α → Prop} (h : ρ[i]? = some (dat U b)) (ho : ∀ F v, U.rep F v b → ∃ a, P a ∧ T.rep F v a) (k : ∀ a, P a → ExS B (ρ.set i (dat T a)) t N) : ExS B ρ t N :=
  ex_know (A := { a // P a }) (s' := fun a => dat T a.1) h (fun F H v fp _ ⟨h1, x, h2, h3⟩ => let ⟨a, pa, ra⟩ := ho F x h3; ⟨⟨a, pa⟩, h1, x, h2, ra⟩) fun a => k a.1 a.2
theorem ex_openO {t : TS} {x : V} {O : OTy β} {O' : OTy α} {P : α → Prop} (h : ρ[i]? = some (own x O b)) (ho : ∀ F H fp, O.rep F H x fp b → ∃ a, P a ∧ O'.rep F H x fp a) (k : ∀ a, P a → ExS B (ρ.set i (own x O' a)) t N) : ExS B ρ t N :=
  ex_know (A := { a // P a }) (s' := fun a => own x O' a.1) h (fun F H v fp _ ⟨h1, h2⟩ => let ⟨a, pa, ra⟩ := ho F H fp h2; ⟨⟨a, pa⟩, h1, ra⟩) fun a => k a.1 a.2
/-- a fresh thing in a slot is its owner's -/
theorem ex_own {t : TS} {O : OTy α} (h : ρ[i]? = some (fre O a)) (hO : ∀ F H x fp, O.rep F H x fp a → ∃ p, x = .ref p ∧ fp = [p]) (k : ∀ p, p ∉ B.io → ExS B (ρ.set i (own (.ref p) O a)) t N) : ExS B ρ t N :=
  ex_know (A := { p : Addr // p ∉ B.io }) (s' := fun p => own (.ref p.1) O a) h (fun F H v fp _ ⟨x, h1, h2, h3⟩ => by
    obtain ⟨p, ex, ef⟩ := hO F H x fp h2
    subst ex
    exact ⟨⟨p, h3 p (by rw [ef]; exact List.mem_cons_self)⟩, h1, h2⟩) fun p => k p.1 p.2
end
end Sw
/-! text Pl1 -/
/-! Pl1: the plain law, rules. -/
namespace K79
open PySem PySem.Spec PyProof.Rows L2 Sw
theorem has_eq (b : List Str) (e : Str) : dHas (accD (fun _ => true) (fun entry => entry) (fun entry => true) b) e = decide (e ∈ b) := by
  rw [dHas_acc]
  induction b with
  | nil => simp
  | cons x b ih =>
    rw [List.any_cons, ih]
    by_cases h : x = e
    · subst h; simp
    · have h' : ¬ e = x := fun z => h z.symm
      simp [h, h']
theorem ew_eq (a b : List Str) : m_entries_without a b = a.filter fun e => !decide (e ∈ b) := by
  unfold m_entries_without
  rw [List.map_id']
  congr 1
  funext e
  rw [has_eq]
theorem wb_eq (a b : List Str) : m_with_both a b = allE.filter fun e => decide (e ∈ a ∨ e ∈ b) := by
  unfold m_with_both m_in_order
  rw [List.map_id', m_all_eq]
  congr 1
  funext e
  rw [has_eq]
  simp
theorem full_eq : m_gathered_entries ["* * *"] = allE := by decide +kernel
theorem none_eq : m_gathered_entries [] = [] := by decide +kernel
/-- taking the others out of the full rule -/
theorem out_eq (o : List Str) (ho : ∀ e ∈ o, e ∈ allE) : ∀ a : List Str, o.foldl st__law_rule_1 a = a.filter fun e => !decide (e ∈ o) := by
  induction o with
  | nil => intro a; simp; exact (List.filter_eq_self.mpr fun _ _ => rfl).symm
  | cons x o ih =>
    intro a
    rw [List.foldl_cons, ih (fun e he => ho e (List.mem_cons_of_mem _ he))]
    have e1 : st__law_rule_1 a x = a.filter fun e => !decide (e = x) := by
      unfold st__law_rule_1
      rw [(ent_x (ho x List.mem_cons_self)).2, ew_eq]
      congr 1
      funext e
      simp
    rw [e1, List.filter_filter]
    congr 1
    funext e
    by_cases h : e = x <;> simp [h]
abbrev Wd (rows : List Str) (s d : Str) : List Str := c_RELATIONS.filter fun w => decide (s ++ (" " : Str) ++ d ++ (" " : Str) ++ w ∈ rows)
theorem rl3_mem (rows : List Str) (s x : Str) : ∀ (ds l : List Str), x ∈ ds.foldl (st__law_rule_3 rows s) l ↔ x ∈ l ∨ ∃ d ∈ ds, Wd rows s d ≠ [] ∧ x = lineOf s d (Wd rows s d)
  | [], l => by simp
  | d :: ds, l => by
    rw [List.foldl_cons, rl3_mem rows s x ds]
    have e : st__law_rule_3 rows s l d = if (Wd rows s d).isEmpty then l else l ++ [lineOf s d (Wd rows s d)] := by
      unfold st__law_rule_3
      rw [List.map_id']
      show (if (!(Wd rows s d).isEmpty) = true then l ++ [lineOf s d (Wd rows s d)] else l) = _
      cases (Wd rows s d).isEmpty <;> rfl
    rw [e]
    constructor
    · rintro (h | ⟨d', h1, h2⟩)
      · split at h
        · exact .inl h
        · rename_i hn
          rcases List.mem_append.mp h with h | h
          · exact .inl h
          · exact .inr ⟨d, List.mem_cons_self, fun z => hn (by rw [z]; rfl), List.mem_singleton.mp h⟩
      · exact .inr ⟨d', List.mem_cons_of_mem _ h1, h2⟩
    · rintro (h | ⟨d', h1, h2, h3⟩)
      · refine .inl ?_
        split
        · exact h
        · exact List.mem_append_left _ h
      · rcases List.mem_cons.mp h1 with rfl | h1
        · refine .inl ?_
          rw [if_neg (fun z => h2 (List.isEmpty_iff.mp z))]
          exact List.mem_append_right _ (List.mem_singleton.mpr h3)
        · exact .inr ⟨d', h1, h2, h3⟩
theorem rl2_mem (rows : List Str) (x : Str) : ∀ (ss l : List Str), x ∈ ss.foldl (st__law_rule_2 rows) l ↔ x ∈ l ∨ ∃ s ∈ ss, ∃ d ∈ c_DEEDS, Wd rows s d ≠ [] ∧ x = lineOf s d (Wd rows s d)
  | [], l => by simp
  | s :: ss, l => by
    rw [List.foldl_cons, rl2_mem rows x ss]
    show (x ∈ m__law_deeds.foldl (st__law_rule_3 rows s) l ∨ _) ↔ _
    rw [rl3_mem]
    constructor
    · rintro ((h | ⟨d, h⟩) | ⟨s', h1, h⟩)
      · exact .inl h
      · exact .inr ⟨s, List.mem_cons_self, d, h⟩
      · exact .inr ⟨s', List.mem_cons_of_mem _ h1, h⟩
    · rintro (h | ⟨s', h1, d, h⟩)
      · exact .inl (.inl h)
      · rcases List.mem_cons.mp h1 with rfl | h1
        · exact .inl (.inr ⟨d, h⟩)
        · exact .inr ⟨s', h1, d, h⟩
theorem fold_wb (L : List Str) : ∀ p : Str → Bool, L.foldl (fun r l => m_with_both r (m_expand l)) (allE.filter p) = allE.filter fun e => p e || L.any fun l => decide (e ∈ m_expand l) := by
  induction L with
  | nil => intro p; simp
  | cons l L ih =>
    intro p
    have e1 : m_with_both (allE.filter p) (m_expand l) = allE.filter fun e => p e || decide (e ∈ m_expand l) := by
      rw [wb_eq]
      refine List.filter_congr fun e he => ?_
      have e2 : (e ∈ allE.filter p ∨ e ∈ m_expand l) ↔ (p e = true ∨ e ∈ m_expand l) := by rw [List.mem_filter]; exact ⟨fun z => z.imp And.right id, fun z => z.imp (fun q => ⟨he, q⟩) id⟩
      rw [Bool.eq_iff_iff, decide_eq_true_eq, Bool.or_eq_true, decide_eq_true_eq]
      exact e2
    rw [List.foldl_cons, e1, ih]
    congr 1
    funext e
    rw [List.any_cons, Bool.or_assoc]
end K79
/-! text Pl2 -/
/-! Pl2: a rule made of entries has these entries. -/
namespace K79
open PySem PySem.Spec PyProof.Rows L2 Sw
theorem ent_eq (x y z : Str) : ent x y z = x ++ (" " : Str) ++ y ++ (" " : Str) ++ z := by
  unfold ent
  have : Str.empty ++ x = x := TL.ext_tl (by rw [TL.tl_append]; rfl)
  rw [this]
theorem ent_w {e : Str} (he : e ∈ allE) : w0 e ++ (" " : Str) ++ w1 e ++ (" " : Str) ++ w2 e = e := by
  rw [← ent_eq]
  have h := (ent_x he).2
  obtain ⟨hsp, h0, h1, h2, hl⟩ := e_facts e he
  have key : ∀ e ∈ allE, ent (w0 e) (w1 e) (w2 e) = e := by decide +kernel
  exact key e he
theorem mw1 (s d : Str) (W : List Str) : m_written [s] [d] W = W.map fun w => ent s d w := by
  unfold m_written
  simp only [List.flatMap_cons, List.flatMap_nil, List.append_nil]
theorem rows_any {rows : List Str} (hr : ∀ e ∈ rows, e ∈ allE) {e : Str} : ((rlL rows).any fun l => decide (e ∈ m_expand l)) = decide (e ∈ rows) := by
  have hm : ∀ l, l ∈ rlL rows ↔ ∃ s ∈ c_STANDINGS, ∃ d ∈ c_DEEDS, Wd rows s d ≠ [] ∧ l = lineOf s d (Wd rows s d) := fun l => by
    exact (rl2_mem rows l m__law_standings []).trans ⟨fun h => h.resolve_left (fun z => nomatch z), fun h => .inr h⟩
  rw [Bool.eq_iff_iff, List.any_eq_true, decide_eq_true_eq]
  constructor
  · rintro ⟨l, h1, h2⟩
    obtain ⟨s, hs, d, hd, hn, e1⟩ := (hm l).mp h1
    have h3 := of_decide_eq_true h2
    rw [e1, (line_x hs hd (filter_subsets _ _) hn).2.1, mw1] at h3
    have h4 : e ∈ (Wd rows s d).map fun w => ent s d w := h3
    obtain ⟨w, hw, ew⟩ := List.mem_map.mp h4
    have h5 := of_decide_eq_true (List.mem_filter.mp hw).2
    rw [← ew, ent_eq]
    exact h5
  · intro h
    have he := hr e h
    obtain ⟨hsp, h0, h1, h2, hl⟩ := e_facts e he
    have hw : w2 e ∈ Wd rows (w0 e) (w1 e) := List.mem_filter.mpr ⟨h2, decide_eq_true (by rw [ent_w he]; exact h)⟩
    have hn : Wd rows (w0 e) (w1 e) ≠ [] := fun z => by rw [z] at hw; cases hw
    refine ⟨_, (hm _).mpr ⟨w0 e, h0, w1 e, h1, hn, rfl⟩, ?_⟩
    refine decide_eq_true ?_
    rw [(line_x h0 h1 (filter_subsets _ _) hn).2.1, mw1]
    exact List.mem_map.mpr ⟨_, hw, by rw [ent_eq, ent_w he]⟩
theorem rule_eq (f : Str → Bool) : m__law_rule (allE.filter f) = allE.filter f := by
  have hr : ∀ e ∈ allE.filter f, e ∈ allE := fun e h => (List.mem_filter.mp h).1
  unfold m__law_rule
  split
  · rw [full_eq, all_entries_eq, List.map_id', out_eq _ (fun e h => (List.mem_filter.mp h).1)]
    refine List.filter_congr fun e he => ?_
    simp only [List.mem_filter, he, true_and]
    cases f e <;> simp
  · show m_read (Txt.join ("\n" : Str) (rlL (allE.filter f))) = _
    have h0 := rl_l80 (rlL_ok (allE.filter f))
    by_cases hL : rlL (allE.filter f) = []
    · have e1 : allE.filter f = [] := by
        refine List.eq_nil_iff_forall_not_mem.mpr fun e he => ?_
        have := rows_any hr (e := e)
        rw [hL, decide_eq_true he] at this
        cases this
      rw [hL]
      have e2 : m_read (Txt.join ("\n" : Str) []) = [] := by
        unfold m_read
        rw [if_pos (by decide +kernel), none_eq]
      rw [e2, e1]
    · have hs := TL.split_join (y := ("\n" : Str)) (s := 10) (S := []) (by decide +kernel) (by decide +kernel) hL (fun p hp => (h0 p hp).2.2)
      have hne : Txt.join ("\n" : Str) (rlL (allE.filter f)) ≠ "" := fun z => by
        rw [z] at hs
        have e3 : Txt.split ("" : Str) ("\n" : Str) = [("" : Str)] := by decide +kernel
        rw [e3] at hs
        obtain ⟨⟨_, a, b, c, hc, _⟩, _⟩ := h0 "" (by rw [← hs]; exact List.mem_cons_self)
        have e4 : Txt.split ("" : Str) (" " : Str) = [("" : Str)] := by decide +kernel
        rw [e4] at hc
        cases hc
      unfold m_read
      rw [if_neg hne, hs, none_eq]
      have e5 : ([] : List Str) = allE.filter fun _ => false := by simp
      rw [e5, fold_wb]
      refine List.filter_congr fun e he => ?_
      rw [rows_any hr]
      simp [he]
end K79
/-! text Pl3 -/
/-! Pl3: rules made of entries by Rule(*rows). -/
namespace K79
open PySem PySem.Spec PyProof.Rows L2 Sw
theorem g1_has (xs : List Str) (hx : ∀ e ∈ xs, e ∈ allE) : ∀ (s : List (Str × Bool)) (e : Str), dHas (xs.foldl st_gathered_entries_1 s) e = (dHas s e || decide (e ∈ xs)) := by
  induction xs with
  | nil => intro s e; simp
  | cons x xs ih =>
    intro s e
    rw [List.foldl_cons, ih (fun y hy => hx y (List.mem_cons_of_mem _ hy))]
    have e1 : st_gathered_entries_1 s x = dPut s x true := by
      unfold st_gathered_entries_1
      rw [if_pos (known_has x (hx x List.mem_cons_self))]
      rfl
    rw [e1, dHas_put, Bool.or_assoc]
    congr 1
    by_cases h : x = e
    · subst h; simp
    · have h' : ¬ e = x := fun z => h z.symm
      simp [h, h']
theorem gath_of (xs : List Str) (hx : ∀ e ∈ xs, e ∈ allE) : m_gathered_entries xs = allE.filter fun e => decide (e ∈ xs) := by
  rw [gath_eq]
  refine List.filter_congr fun e he => ?_
  rw [g1_has xs hx]
  simp [dHas]
theorem gath_sub (f : Str → Bool) : m_gathered_entries (allE.filter f) = allE.filter f := by
  rw [gath_of _ fun e h => (List.mem_filter.mp h).1]
  refine List.filter_congr fun e he => ?_
  by_cases h : f e = true
  · rw [h]; exact decide_eq_true (List.mem_filter.mpr ⟨he, h⟩)
  · rw [Bool.not_eq_true] at h
    rw [h]
    exact decide_eq_false fun z => by rw [(List.mem_filter.mp z).2] at h; cases h
theorem freest_eq (p : Str × Str) : m_freest p = allE.filter fun e => !m_harmful e p := by
  unfold m_freest
  rw [List.map_id', m_all_eq]
  exact gath_sub _
theorem le_eq (a b : List Str) : m_le a b = (m_live_among a).all fun e => decide (e ∈ b) := by
  unfold m_le
  rw [ew_eq]
  rw [Bool.eq_iff_iff, decide_eq_true_eq, List.all_eq_true]
  constructor
  · intro h e he
    by_cases hb : e ∈ b
    · exact decide_eq_true hb
    · exfalso
      have : e ∈ (m_live_among a).filter fun e => !decide (e ∈ b) := List.mem_filter.mpr ⟨he, by simp [hb]⟩
      have h2 : ((m_live_among a).filter fun e => !decide (e ∈ b)).length = 0 := by omega
      rw [List.length_eq_zero_iff.mp h2] at this
      cases this
  · intro h
    have : ((m_live_among a).filter fun e => !decide (e ∈ b)) = [] := List.filter_eq_nil_iff.mpr fun e he => by
      have := of_decide_eq_true (h e he)
      simp [this]
    rw [this]
    rfl
end K79
/-! text Pl4 -/
/-! Pl4: harmful entries: the program's and the law's words agree. -/
namespace K79
open PySem PySem.Spec PyProof.Rows L2 Sw
theorem harm_eq : ∀ e ∈ allE, ∀ l ∈ ([("fresh" : Str), "kept"] : List Str), ∀ r ∈ ([("fresh" : Str), "kept"] : List Str), m_harmful e (l, r) = m__law_harmful e l r := by decide +kernel
end K79
/-! text Pl5 -/
/-! Pl5: live entries: the program's and the law's words agree. -/
namespace K79
open PySem PySem.Spec PyProof.Rows L2 Sw
theorem emp_app (x : Str) : Str.empty ++ x = x := TL.ext_tl (by rw [TL.tl_append]; rfl)
theorem st_live (rows s : List Str) (x : Str) : st__law_live_1 rows s x = if m_is_live x (accD (fun _ => true) (fun entry => entry) (fun entry => true) rows) = true then s ++ [x] else s := by
  unfold st__law_live_1 m_is_live
  simp only [has_eq, emp_app]
  have e : m__law_strong = c_STRONG := rfl
  rw [e]
  congr 1
  generalize decide (ixD (Txt.split x (" " : Str)) 1 ∈ c_STRONG) = a
  generalize decide (ixD (Txt.split x (" " : Str)) 0 = ("reserved" : Str)) = b
  generalize decide (("reserved lend " : Str) ++ m_inverse (ixD (Txt.split x (" " : Str)) 2) ∈ rows) = c
  generalize decide (ixD (Txt.split x (" " : Str)) 0 ++ (" reserve " : Str) ++ ixD (Txt.split x (" " : Str)) 2 ∈ rows) = d
  cases a
  · rfl
  · cases b <;> cases c <;> cases d <;> rfl
theorem live_eq (rows : List Str) : m_live_among rows = m__law_live rows := by
  unfold m_live_among m__law_live
  rw [List.map_id']
  have key : ∀ (xs s : List Str), xs.foldl (st__law_live_1 rows) s = s ++ xs.filter fun entry => m_is_live entry (accD (fun _ => true) (fun entry => entry) (fun entry => true) rows) := by
    intro xs
    induction xs with
    | nil => intro s; simp
    | cons x xs ih =>
      intro s
      rw [List.foldl_cons, ih, st_live, List.filter_cons]
      split
      · rw [List.append_assoc]; rfl
      · rfl
  rw [key, List.nil_append]
end K79
/-! text Pl6 -/
/-! Pl6: soundness and the strongest promise, plainly. -/
namespace K79
open PySem PySem.Spec PyProof.Rows L2 Sw
def hF (e : Str) : Bool := m__law_harmful e "fresh" "fresh"
def hK (e : Str) : Bool := m__law_harmful e "kept" "kept"
def rsv (e : Str) : Bool := decide (ixD (Txt.split e (" " : Str)) 0 = ("reserved" : Str))
abbrev two : List Str := [("fresh" : Str), "kept"]
theorem harm4 : ∀ e ∈ allE, ∀ l ∈ two, ∀ r ∈ two, m_harmful e (l, r) = (hF e || (hK e && decide ((if rsv e = true then r else l) = ("kept" : Str)))) := by decide +kernel
theorem sound_eq {rows : List Str} (hr : preR rows) {l r : Str} (hl : l ∈ two) (hrr : r ∈ two) :
    m_sound rows (l, r) = (!(m__law_live rows).any hF && ((decide (l = "fresh") || !(m__law_live rows).any fun e => hK e && !rsv e) && (decide (r = "fresh") || !(m__law_live rows).any fun e => hK e && rsv e))) := by
  show m_le rows (m_freest (l, r)) = _
  rw [le_eq, live_eq, freest_eq]
  have hE : ∀ e ∈ m__law_live rows, e ∈ allE := (ll_R hr).2
  generalize m__law_live rows = L at hE
  rw [Bool.eq_iff_iff]
  simp only [List.all_eq_true, Bool.and_eq_true, Bool.not_eq_true', Bool.or_eq_true, decide_eq_true_eq, List.any_eq_false, List.mem_filter]
  constructor
  · intro h
    have h1 : ∀ e ∈ L, (hF e || (hK e && decide ((if rsv e = true then r else l) = ("kept" : Str)))) = false := fun e he => by
      have := (h e he).2
      rw [harm4 e (hE e he) l hl r hrr] at this
      simpa using this
    refine ⟨fun e he => by have := h1 e he; revert this; cases hF e <;> simp, ?_, ?_⟩
    · rcases List.mem_cons.mp hl with rfl | h2
      · exact .inl rfl
      · refine .inr fun e he => ?_
        have := h1 e he
        rw [List.mem_singleton.mp h2] at this
        revert this
        cases hF e <;> cases hK e <;> cases rsv e <;> simp
    · rcases List.mem_cons.mp hrr with rfl | h2
      · exact .inl rfl
      · refine .inr fun e he => ?_
        have := h1 e he
        rw [List.mem_singleton.mp h2] at this
        revert this
        cases hF e <;> cases hK e <;> cases rsv e <;> simp
  · rintro ⟨h1, h2, h3⟩ e he
    refine ⟨hE e he, ?_⟩
    rw [harm4 e (hE e he) l hl r hrr]
    have a1 := h1 e he
    have a2 : l = "fresh" ∨ ¬ (hK e = true ∧ rsv e = false) := h2.imp id fun z => z e he
    have a3 : r = "fresh" ∨ ¬ (hK e = true ∧ rsv e = true) := h3.imp id fun z => z e he
    have nk : ("fresh" : Str) ≠ "kept" := by decide +kernel
    have nl : l = "fresh" → ¬ l = ("kept" : Str) := fun z => by rw [z]; exact nk
    have nr : r = "fresh" → ¬ r = ("kept" : Str) := fun z => by rw [z]; exact nk
    revert a1 a2 a3
    cases hF e <;> cases hK e <;> cases rsv e <;> simp <;> first | exact nl | exact nr | skip
end K79
/-! text Pl7 -/
/-! Pl7: the law's best words, plainly. -/
namespace K79
open PySem PySem.Spec PyProof.Rows L2 Sw
theorem st_best_eq (a b x : Str) : st_best [a, b] x = [if (hK x && !rsv x) = true then ("fresh" : Str) else a, if (hK x && rsv x) = true then ("fresh" : Str) else b] := by
  have e1 : (rk x).toNat = if rsv x = true then 1 else 0 := by
    show (if decide (ixD (Txt.split x (" " : Str)) 0 = ("reserved" : Str)) then (1 : Int) else 0).toNat = if rsv x = true then 1 else 0
    unfold rsv
    split <;> rfl
  unfold st_best
  rw [e1]
  show (if hK x = true then [a, b].set (if rsv x = true then 1 else 0) "fresh" else [a, b]) = _
  cases hK x <;> cases rsv x <;> rfl
theorem ite_or (p q : Bool) (b : Str) : (if p = true then ("fresh" : Str) else if q = true then ("fresh" : Str) else b) = if (q || p) = true then ("fresh" : Str) else b := by cases p <;> cases q <;> rfl
theorem fold_best (xs : List Str) : ∀ a b : Str, xs.foldl st_best [a, b] = [if (xs.any fun e => hK e && !rsv e) = true then ("fresh" : Str) else a, if (xs.any fun e => hK e && rsv e) = true then ("fresh" : Str) else b] := by
  induction xs with
  | nil => intro a b; rfl
  | cons x xs ih =>
    intro a b
    rw [List.foldl_cons, st_best_eq, ih, ite_or, ite_or, List.any_cons, List.any_cons]
theorem best_eq (rows : List Str) : m_best rows = if (m__law_live rows).any hF = true then none else some [if ((m__law_live rows).any fun e => hK e && !rsv e) = true then ("fresh" : Str) else "kept", if ((m__law_live rows).any fun e => hK e && rsv e) = true then ("fresh" : Str) else "kept"] := by
  unfold m_best
  rw [fold_best]
  rfl
/-- the two words of the strongest promise, as a loop over the four promises finds them -/
def m_strongest (rows : List Str) : Option (Str × Str) := [(("fresh" : Str), ("fresh" : Str)), ("fresh", "kept"), ("kept", "fresh"), ("kept", "kept")].foldl (fun b p => if m_sound rows p = true then some (match b with | none => p | some q => m_Por q p) else b) none
theorem strongest_eq {rows : List Str} (hr : preR rows) : m_best rows = (m_strongest rows).map fun p => [p.1, p.2] := by
  have hf : ("fresh" : Str) ∈ two := List.mem_cons_self
  have hk : ("kept" : Str) ∈ two := List.mem_cons_of_mem _ List.mem_cons_self
  unfold m_strongest
  simp only [List.foldl_cons, List.foldl_nil]
  rw [best_eq, sound_eq hr hf hf, sound_eq hr hf hk, sound_eq hr hk hf, sound_eq hr hk hk]
  have nk : decide (("kept" : Str) = "fresh") = false := by decide +kernel
  have nf : decide (("fresh" : Str) = "fresh") = true := by decide +kernel
  rw [nk, nf]
  cases (m__law_live rows).any hF <;> cases ((m__law_live rows).any fun e => hK e && !rsv e) <;> cases ((m__law_live rows).any fun e => hK e && rsv e) <;> decide +kernel
end K79
/-! text D20 -/
set_option maxHeartbeats 1000000
/-! D20: all_promises, strongest -/
namespace K79
open PySem PySem.Spec PyProof.Rows L2 Sw ItX
section
variable {P : Program} {w : World} {K : PySem.W.Frag} {mg : Str → Option Value} {base : Heap} (T : Tx w K mg)
abbrev s_allp : Stmt := top 34
abbrev N_allp : List Str := ["look", "reserved"]
theorem sc_allp : GScope N_allp [] (defScope s_allp) := ⟨rfl, rfl, rfl, by decide +kernel, rfl, (fun x hx => nomatch hx), by decide +kernel⟩
theorem nc_allp : ∀ n, PySem.cellsFrom n (defScope s_allp).names [] = [] := fun n => rfl
theorem nk_allp : ∀ y, (defScope s_allp).names.lookup y ≠ some .cell ∧ (defScope s_allp).names.lookup y ≠ some .free := fun y => by
  have h : ∀ q ∈ (defScope s_allp).names, q.2 ≠ NameKind.cell ∧ q.2 ≠ NameKind.free := by decide +kernel
  refine ⟨fun z => (h _ (PySem.mem_of_lookup z)).1 rfl, fun z => (h _ (PySem.mem_of_lookup z)).2 rfl⟩
abbrev words4 : List (Str × Str) := [(("fresh" : Str), ("fresh" : Str)), ("fresh", "kept"), ("kept", "fresh"), ("kept", "kept")]
def wd (j : Nat) : Str := if j = 0 then "fresh" else "kept"
theorem wd_ok (j : Nat) : okW (wd j) := by
  unfold wd
  split
  · exact .inl rfl
  · exact .inr rfl
theorem wd_at {j : Nat} {x : V} (h : [V.str "fresh", V.str "kept"][j]? = some x) : j < 2 ∧ x = .str (wd j) := by
  match j, h with
  | 0, h => cases h; exact ⟨by decide, rfl⟩
  | 1, h => cases h; exact ⟨by decide, rfl⟩
theorem w4_at {j k : Nat} (hj : j < 2) (hk : k < 2) : words4[2 * j + k]? = some (wd j, wd k) := by
  match j, k, hj, hk with
  | 0, 0, _, _ => rfl
  | 0, 1, _, _ => rfl
  | 1, 0, _, _ => rfl
  | 1, 1, _, _ => rfl
theorem pi_tupK {X : Cx} {K : PySem.W.Frag} {tg l : Expr} {tl : TE} (hK : X.K = K) (hl : PE X l tl) : PI X tg l (iTup K tl) := hK ▸ pi_tup hl
theorem pe_cvalK {X : Cx} {K : PySem.W.Frag} {e : Expr} {f : Str} {pos : Pos} {ta : TE} (hK : X.K = K) (he : PE X e ta) (hb : attributeBase e f X.env (eval e X.env) = eval e X.env := by rfl) : PE X (.Attribute e f pos) (ClX.tCVal K ta f) := hK ▸ ClX.pe_cval he hb
theorem pair2 {α : Type} {R : V → α → Prop} {vs : List V} {x y : α} (r : Paired R vs [x, y]) : ∃ a b, vs = [a, b] ∧ R a x ∧ R b y := by
  cases r with
  | cons r1 r =>
    cases r with
    | cons r2 r =>
      cases r
      exact ⟨_, _, rfl, r1, r2⟩
theorem sq_W (H : Hp) : SqT K H T.a_WORDS [V.str "fresh", V.str "kept"] := by
  obtain ⟨p, vs, e, h, r⟩ := T.v_WORDS H
  obtain ⟨a, b, rfl, r1, r2⟩ := pair2 r
  have e1 : a = V.str "fresh" := r1
  have e2 : b = V.str "kept" := r2
  have e3 : T.a_WORDS = p := V.ref.inj e
  rw [e1, e2, ← e3] at h
  exact h
theorem sq_in {H : Hp} {j : Nat} {x : V} (h : ∀ xs, SqT K H T.a_WORDS xs → xs[j]? = some x) : j < 2 ∧ x = .str (wd j) := wd_at (h _ (sq_W T H))
theorem go_W {H : Hp} {j : Nat} (hj : j < 2) : (Itt K T.a_WORDS).go j H := by
  match j, hj with
  | 0, _ => exact ⟨_, _, sq_W T H, rfl⟩
  | 1, _ => exact ⟨_, _, sq_W T H, rfl⟩
abbrev SpA : Gw.Spz := spz words4 (fun a => fre (oIns T.cP) (dP a))
theorem g_all_promises : Gw.GZn P w K mg base 4 "all_promises" (fun vs _ => vs = []) (fun _ _ => SpA T) := by
  have nd := sc_allp.nd
  refine Gw.gz_of T.d_all_promises.ex sc_allp nc_allp nk_allp (fun _ _ _ _ _ _ us hl => match us, hl with | [], _ => rfl) (fun vs H h => by rw [h]; rfl) (fun f cdv A outer L a go vs H hr hpre => ?_)
  refine ⟨_, Gw.gps_one (Gw.gp_for (fun s0 H0 => (pi_tupK (K := K) rfl (pe_cvalK (K := K) rfl (pe_glob (v := .ref T.cP) (by rfl) T.g_cP rfl (by decide))))) (fun s0 H0 => pg_name (i := 0) nd rfl (Or.inl rfl)) (Gw.gps_one (Gw.gp_for (fun s0 H0 => (pi_tupK (K := K) rfl (pe_cvalK (K := K) rfl (pe_glob (v := .ref T.cP) (by rfl) T.g_cP rfl (by decide))))) (fun s0 H0 => pg_name (i := 1) nd rfl (Or.inl rfl))
    (Gw.gps_one (Gw.gp_yield (fun s0 H0 => pe_mkR (g_P_init T) (j := 3) hr (by decide) rfl (pa_cons (pv 0) (pa_cons (pv 1) pa_nil))) rfl rfl)) (nc_allp (L + 1)) (fun _ => rfl))) (nc_allp (L + 1)) (fun _ => rfl)), fun H'' _ => ?_⟩
  subst hpre
  have hmost : (SpA T).most = 4 := rfl
  refine ⟨T.cP, .type "type", .ref T.a_WORDS, .ref T.a_WORDS, rfl, T.cv_WORDS.1, T.cv_WORDS.2, T.a_WORDS, rfl, ⟨_, sq_W T _⟩, fun j n i H0 σ H => n = 2 - j ∧ j ≤ 2 ∧ i = 2 * j ∧ H = H0 ∧ ∃ a b, σ = [a, b], ⟨2, rfl, by decide, rfl, rfl, none, none, rfl⟩, ?_⟩
  rintro j n i H0 σ H ⟨rfl, hj, rfl, rfl, a, b, rfl⟩
  by_cases hj2 : j = 2
  · subst hj2
    exact .inl ⟨⟨_, sq_W T _, by decide⟩, by decide, rfl⟩
  refine .inr ⟨go_W T (by omega), fun i' H0' σ' H' => i' = 2 * (j + 1) ∧ H' = H0' ∧ ∃ a b, σ' = [a, b], fun i' H0' σ' H' ⟨h1, h2, h3⟩ => ⟨2 - (j + 1), by omega, rfl, by omega, h1, h2, h3⟩, fun x H' hy => ?_⟩
  obtain ⟨rfl, hx⟩ := hy
  obtain ⟨hjl, rfl⟩ := sq_in T hx
  refine ⟨T.cP, .type "type", .ref T.a_WORDS, .ref T.a_WORDS, rfl, T.cv_WORDS.1, T.cv_WORDS.2, T.a_WORDS, rfl, ⟨_, sq_W T _⟩, fun k n i H0 σ H => n = 2 - k ∧ k ≤ 2 ∧ i = 2 * j + k ∧ H = H0 ∧ ∃ b, σ = [some (.str (wd j)), b], ⟨2, rfl, by decide, rfl, rfl, b, rfl⟩, ?_⟩
  rintro k n i H0 σ H ⟨rfl, hk, rfl, rfl, b, rfl⟩
  by_cases hk2 : k = 2
  · subst hk2
    exact .inl ⟨⟨_, sq_W T _, by decide⟩, by omega, rfl, _, _, rfl⟩
  refine .inr ⟨go_W T (by omega), fun i' H0' σ' H' => i' = 2 * j + (k + 1) ∧ H' = H0' ∧ ∃ b, σ' = [some (.str (wd j)), b], fun i' H0' σ' H' ⟨h1, h2, h3⟩ => ⟨2 - (k + 1), by omega, rfl, by omega, h1, h2, h3⟩, fun y H' hy => ?_⟩
  obtain ⟨rfl, hx2⟩ := hy
  obtain ⟨hkl, rfl⟩ := sq_in T hx2
  refine ⟨by show 2 * j + k < 4; omega, ?_⟩
  have ev : EvE ⟨nowt, H', []⟩ [dat tStr (wd j), dat tStr (wd k)] (tMk T.cP (sp_P_init T) (tCons (tVar 0) (tCons (tVar 1) tNil))) (fre (oIns T.cP) (dP (wd j, wd k))) [dat tStr (wd j), dat tStr (wd k)] :=
    (fr_make (wd j, wd k) (ea_cons (ev_var rfl) (ea_cons (ev_var rfl) ea_nil)) ⟨wd_ok j, wd_ok k⟩ fr_l2)
  refine ev H' [some (.str (wd j)), some (.str (wd k))] [] _ ⟨rfl, ⟨nowt, [[], []], Same.refl _, (fun x o h => nomatch h), (fun _ _ h _ => h), (fun _ o h => ⟨o, h⟩), (fun _ _ h _ => h), (fun p hp => nomatch hp), ⟨⟨rfl, _, rfl, rfl⟩, ⟨rfl, _, rfl, rfl⟩, trivial⟩, List.nodup_nil, (fun p hp => nomatch hp)⟩⟩ fun v H1 st1 => ?_
  refine ⟨⟨(wd j, wd k), w4_at hjl hkl, ?_⟩, fun H3 _ => ⟨by omega, rfl, _, rfl⟩⟩
  exact st1.core.one
/-! strongest -/
abbrev N_strongest : List Str := ["rule", "best", "promise"]
theorem sc_strongest : FnScope N_strongest ["rule"] (defScope (top 41)) := ⟨rfl, rfl, rfl, by decide +kernel, rfl, by decide +kernel, by decide +kernel⟩
def resS : Option (Str × Str) → SV
  | none => dat tNon ()
  | some q => fre (oIns T.cP) (dP q)
theorem flatP (q : Str × Str) : FlatD (dP q) := fun d hd => by
  rcases List.mem_cons.mp hd with rfl | hd
  · exact fun _ _ _ h => h
  · rcases List.mem_cons.mp hd with rfl | hd
    · exact fun _ _ _ h => h
    · cases hd
abbrev sp_strongest : Sp := spF (A := List Str) (fun a => preR a) (fun a => [dat (tR T) (dR a)]) (fun a => resS T (m_strongest a))
def st_str (rows : List Str) (b : Option (Str × Str)) (p : Str × Str) : Option (Str × Str) := if m_sound rows p = true then some (match b with | none => p | some q => m_Por q p) else b
def BestIs (B : Bas) (sv : SV) : Option (Str × Str) → Prop
  | none => sv = dat tNon ()
  | some q => ∃ p, p ∉ B.io ∧ sv = own (.ref p) (oIns T.cP) (dP q)
theorem best_era {B : Bas} {sv : SV} {b : Option (Str × Str)} (h : BestIs T B sv b) : Era sv ∧ Fr sv := by
  cases b with
  | none => obtain rfl := h; exact ⟨era_non, fr_dat⟩
  | some q => obtain ⟨p, _, rfl⟩ := h; exact ⟨era_ownI (flatP q), fr_own⟩
theorem g_strongest : Gn P w K mg base 8 "strongest" (sp_strongest T) := by
  have nd := sc_strongest.nd
  refine gn_of T.d_strongest sc_strongest (lenF fun _ => rfl) (fun _ _ _ _ _ _ us hl => match us, hl with | [_], _ => rfl) (fun f cdv A outer s H vs Q E hr h => ⟨_, (pss_cons (ps_set (i := 1) nd rfl (by first | exact Or.inl rfl | exact Or.inr rfl) pe_non) (pss_cons (Gw.ps_forZ (k := 4) (fun _ _ z => z) rfl (hr.mono (by decide)) (Gw.pm_call0 (g_all_promises T) (hr.mono (by decide)) rfl) (pg_name (i := 2) nd rfl (by first | exact Or.inl rfl | exact Or.inr rfl))
      (pss_one (ps_if (pt_val (pe_cl (g_is_sound T) hr (by decide) rfl (pa_cons (pv 0) (pa_cons (pv 2) pa_nil)))) (pss_one (ps_set (i := 1) nd rfl (by first | exact Or.inl rfl | exact Or.inr rfl) (pe_ifExp (pt_cmpR op_isN (pv 1) pe_non (nomark _)) (pv 2) (pe_op (on_op (g_P_or T) hr (by decide)) (pv 1) (pv 2))))) pss_nil))) (pss_one (ps_ret (pv 1))))), body_F h fun a B hp => ?_⟩)
  refine ex_seq (ex_asg (i := 1) ev_non (by show _ < 3; decide) ?_)
  refine ex_seq (ex_forZ (xs := words4) (R := fun a => fre (oIns T.cP) (dP a)) (fun σ H Q q => ⟨rfl, q⟩) (fun i ρ => ∃ e sv, ρ = [dat (tR T) (dR a), sv, e] ∧ BestIs T B sv ((words4.take i).foldl (st_str a) none)) ⟨_, _, rfl, rfl⟩ (fun i ρ ⟨e, sv, h, _⟩ => by rw [h]; show 2 < 3; decide) (fun i p ρ hi ⟨e, sv, h, hb⟩ => ?_) (fun ρ ⟨e, sv, h, hb⟩ => ?_))
  · subst h
    have et : words4.take (i + 1) = words4.take i ++ [p] := by
      obtain ⟨hl, ez⟩ := List.getElem?_eq_some_iff.mp hi
      rw [List.take_succ_eq_append_getElem hl, ez]
    generalize hbb : (words4.take i).foldl (st_str a) none = b at hb
    have nx : (words4.take (i + 1)).foldl (st_str a) none = st_str a b p := by rw [et, List.foldl_append, hbb]; rfl
    obtain ⟨he, hfr⟩ := best_era T hb
    refine ex_own (i := 2) rfl oat_ins fun q hq => ?_
    refine ex_if (et_B (ev_lend (bs := [false, false, true]) (.still frz_dat (.keep he (.lend brw_ins .nil))) (fr_cons fr_dat (fr_cons hfr (fr_cons fr_own fr_nil))) era_bl fun B' => ev_call (ins := fun a : List Str × Str × Str => [dat (tR T) (dR a.1), dat (tP T) (dP a.2)]) (a, p) (ea_cons (ev_var rfl) (ea_cons (ev_varI rfl) ea_nil)) hp fr_l2)) (fun h1 => ?_) (fun h1 => ?_)
    · cases b with
      | none =>
        obtain rfl := hb
        refine ex_asg (i := 1) (R := own (.ref q) (oIns T.cP) (dP p)) (ρ1 := [dat (tR T) (dR a), dat tNon (), any]) (ev_if (ρ1 := [dat (tR T) (dR a), dat tNon (), own (.ref q) (oIns T.cP) (dP p)]) (k := true) (et_test (ev_isN (T := tP T) (x := none) (EvE.noneO (ev_var rfl)))) (fun _ => ev_mv rfl) (fun z => by cases z)) (by show _ < 3; decide) ?_
        refine ⟨any, _, rfl, ?_⟩
        rw [nx]
        unfold st_str
        rw [if_pos h1]
        exact ⟨q, hq, rfl⟩
      | some r =>
        obtain ⟨p0, hp0, rfl⟩ := hb
        refine ex_asgO (i := 1) (O := oIns T.cP) (a := dP (m_Por r p)) (ρ1 := [dat (tR T) (dR a), own (.ref p0) (oIns T.cP) (dP r), own (.ref q) (oIns T.cP) (dP p)]) (ev_if (ρ1 := [dat (tR T) (dR a), own (.ref p0) (oIns T.cP) (dP r), own (.ref q) (oIns T.cP) (dP p)]) (k := false) (et_test (ev_isNv (x := .ref p0) (ev_varO rfl) (fun z => nomatch z))) (fun z => by cases z) (fun _ => ?_)) (by show _ < 3; decide) oat_ins (fun p1 hp1 => ?_)
        · exact ev_lend (bs := [false, true, true]) (.still frz_dat (.lend brw_ins (.lend brw_ins .nil))) (fr_cons fr_dat (fr_cons fr_own (fr_cons fr_own fr_nil))) (era_freI (flatP _)) fun B' => ev_own2 (pre := fun _ => True) (ins := fun a : (Str × Str) × Str × Str => [dat (tP T) (dP a.1), dat (tP T) (dP a.2)]) (res := fun a => fre (oIns T.cP) (dP (m_Por a.1 a.2))) (r, p) rfl (ev_varI rfl) (ev_varI rfl) trivial
        · refine ⟨_, _, rfl, ?_⟩
          rw [nx]
          unfold st_str
          rw [if_pos h1]
          exact ⟨p1, hp1, rfl⟩
    · refine ex_next ⟨_, _, rfl, ?_⟩
      rw [nx]
      unfold st_str
      rw [if_neg (nt h1)]
      exact hb
  · subst h
    have e4 : (words4.take words4.length).foldl (st_str a) none = m_strongest a := rfl
    rw [e4] at hb
    cases hm : m_strongest a with
    | none =>
      rw [hm] at hb
      obtain rfl := hb
      refine ex_ret (ev_var rfl) ?_
      rfl
    | some q =>
      rw [hm] at hb
      obtain ⟨p, hp, rfl⟩ := hb
      refine ex_retO (i := 1) rfl hp oat_ins ?_
      rfl
end
end K79
/-! text Sw23 -/
set_option maxHeartbeats 1000000
/-! Sw23: values of which only a part is known. -/
namespace Sw
open PySem PySem.Spec PyProof.Rows L2
def tIn (n : Int) : Ty Unit := ⟨fun _ v _ => ∃ k, 0 ≤ k ∧ k < n ∧ v = .int k, fun _ h => h⟩
def tOne (row : List Str) : Ty Unit := ⟨fun _ v _ => ∃ s, s ∈ row ∧ v = .str s, fun _ h => h⟩
def tAB : Ty Unit := ⟨fun _ v _ => ∃ b, v = .bl b, fun _ h => h⟩
theorem gn_imp {P : Program} {w : World} {K : PySem.W.Frag} {mg : Str → Option Value} {base : Heap} {k : Nat} {x : Str} {sp sp' : Sp} (g : Gn P w K mg base k x sp) (h : ∀ vs H Q E, sp' vs H Q E → sp vs H Q E) : Gn P w K mg base k x sp' := by
  obtain ⟨f, F, hm⟩ := g.ex
  exact ⟨f, ⟨F.run.imp h, F.kp⟩, hm⟩
section
variable {B : Bas} {ρ ρ1 ρ2 ρ' : List SV} {ta tb te : TE} {n j : Int} {N : Kn} {i : Nat} {α β : Type}
theorem ev_cmpIn {g : Int → Int → Bool} (ha : EvE B ρ ta (dat (tIn n) ()) ρ1) (hb : EvE B ρ1 tb (dat tInt j) ρ2) : EvE B ρ (tOp (rI0 fun i j => .bl (g i j)) ta tb) (dat tAB ()) ρ2 :=
  ev_op ha hb fun H x y L Q k q => by
    obtain ⟨F, u, w, _, e1, e2, r1, k0, h1, h2, r2⟩ := k.d2
    cases e1; cases e2
    exact ⟨k0, j, r2, r1, q _ H (k.cut2.sc (T := tAB) (a := ()) fun _ => ⟨_, rfl⟩)⟩
theorem ev_eqIn (ha : EvE B ρ ta (dat (tIn n) ()) ρ1) (hb : EvE B ρ1 tb (dat tInt j) ρ2) : EvE B ρ (tOp rEq ta tb) (dat tAB ()) ρ2 :=
  ev_op ha hb fun H x y L Q k q => by
    obtain ⟨F, u, w, _, e1, e2, r1, k0, h1, h2, r2⟩ := k.d2
    cases e1; cases e2
    rw [r2, show _ = V.int j from r1]
    exact ⟨rfl, q _ H (k.cut2.sc (T := tAB) (a := ()) fun _ => ⟨_, rfl⟩)⟩
theorem ev_divIn (ha : EvE B ρ ta (dat (tIn n) ()) ρ1) (hb : EvE B ρ1 tb (dat tInt 2) ρ2) : EvE B ρ (tOp (rI CDiv fun i j => .int (i / j)) ta tb) (dat (tIn n) ()) ρ2 :=
  ev_op ha hb fun H x y L Q k q => by
    obtain ⟨F, u, w, _, e1, e2, r1, k0, h1, h2, r2⟩ := k.d2
    cases e1; cases e2
    exact ⟨k0, 2, r2, r1, ⟨by decide, by decide⟩, q _ H (k.cut2.sc (T := tIn n) (a := ()) fun _ => ⟨k0 / 2, by omega, by omega, rfl⟩)⟩
theorem ev_notA (ha : EvE B ρ ta (dat tAB ()) ρ1) : EvE B ρ (tNotV ta) (dat tAB ()) ρ1 := fun H σ τ Q st q =>
  ha H σ τ _ st fun v H1 st1 => by
    obtain ⟨F, x, _, e1, b, e2⟩ := st1.core.d1
    cases e1; cases e2
    exact ⟨b, rfl, q _ H1 ⟨st1.len, st1.core.cut.sc (T := tAB) (a := ()) fun _ => ⟨_, rfl⟩⟩⟩
/-- a fresh thing seen otherwise -/
theorem EvE.asO {O : OTy α} {O' : OTy β} {a : α} {b : β} (h : EvE B ρ te (fre O a) ρ') (e : ∀ F H x fp, O.rep F H x fp a → O'.rep F H x fp b) : EvE B ρ te (fre O' b) ρ' := fun H σ τ Q st q =>
  h H σ τ _ st fun v H' st' => q v H' ⟨st'.len, st'.core.weak fun F fp _ ⟨x, h1, h2, h3⟩ => .inl ⟨x, h1, e F _ x fp h2, h3⟩⟩
theorem pair_rep {T : Ty α} {U : Ty Unit} {F : Hp} {vs : List V} {xs : List α} (h : ∀ v a, T.rep F v a → U.rep F v ()) (r : Paired (T.rep F) vs xs) : Paired (U.rep F) vs (List.replicate xs.length ()) := by
  induction r with
  | nil => exact .nil
  | cons q _ ih => exact .cons (h _ _ q) ih
theorem ab_list {xs : List Bool} : ∀ F H x fp, (oList tBl).rep F H x fp xs → (oList tAB).rep F H x fp (List.replicate xs.length ()) := fun F H x fp ⟨p, vs, h1, h2, h3, h4⟩ => ⟨p, vs, h1, h2, h3, pair_rep (fun v a e => ⟨a, e⟩) h4⟩
theorem ab_open {n : Nat} : ∀ F H x fp, (oList tAB).rep F H x fp (List.replicate n ()) → ∃ bs : List Bool, bs.length = n ∧ (oList tBl).rep F H x fp bs := fun F H x fp ⟨p, vs, h1, h2, h3, h4⟩ => by
  have key : ∀ {vs : List V} {us : List Unit}, Paired (tAB.rep F) vs us → ∃ bs : List Bool, bs.length = us.length ∧ Paired (tBl.rep F) vs bs := fun r => by
    induction r with
    | nil => exact ⟨[], rfl, .nil⟩
    | cons q _ ih =>
      obtain ⟨b, hb⟩ := q
      obtain ⟨bs, hl, hr⟩ := ih
      exact ⟨b :: bs, by rw [List.length_cons, List.length_cons, hl], .cons hb hr⟩
  obtain ⟨bs, hl, hr⟩ := key h4
  exact ⟨bs, by rw [hl, List.length_replicate], p, vs, h1, h2, h3, hr⟩
theorem rep_set {n k : Nat} : (List.replicate n ()).set k () = List.replicate n () := by
  apply List.ext_getElem?
  intro i
  rw [List.getElem?_set]
  split
  · rename_i h
    subst h
    split
    · rename_i h2
      rw [List.getElem?_replicate, if_pos (by simpa using h2)]
    · rename_i h2
      rw [List.getElem?_replicate, if_neg (by simpa using h2)]
  · rfl
/-- a sequence by what holds between -/
theorem ExS.mono {t : TS} {N N' : Kn} (h : ExS B ρ t N) (h1 : ∀ r, N.nx r → N'.nx r) (h2 : ∀ R r, N.rt R r → N'.rt R r) (h3 : ∀ r, N.bk r → N'.bk r) (h4 : ∀ r, N.ct r → N'.ct r) : ExS B ρ t N' := fun H σ τ D st k1 k2 k3 k4 =>
  h H σ τ D st (fun r H' σ' q => k1 r H' σ' (h1 r q)) (fun R r v H' σ' q => k2 R r v H' σ' (h2 R r q)) (fun r H' σ' q => k3 r H' σ' (h3 r q)) (fun r H' σ' q => k4 r H' σ' (h4 r q))
theorem ex_seqP {t u : TS} (J : List SV → Prop) (h : ExS B ρ t { N with nx := J }) (k : ∀ r, J r → ExS B r u N) : ExS B ρ (tSeq t u) N :=
  ex_seq (h.mono (fun r q => k r q) (fun _ _ q => q) (fun _ q => q) (fun _ q => q))
def tAS : Ty Unit := ⟨fun _ v _ => ∃ s, v = .str s, fun _ h => h⟩
theorem as_open {n : Nat} : ∀ F H x fp, (oList tAS).rep F H x fp (List.replicate n ()) → ∃ ss : List Str, ss.length = n ∧ (oList tStr).rep F H x fp ss := fun F H x fp ⟨p, vs, h1, h2, h3, h4⟩ => by
  have key : ∀ {vs : List V} {us : List Unit}, Paired (tAS.rep F) vs us → ∃ bs : List Str, bs.length = us.length ∧ Paired (tStr.rep F) vs bs := fun r => by
    induction r with
    | nil => exact ⟨[], rfl, .nil⟩
    | cons q _ ih =>
      obtain ⟨b, hb⟩ := q
      obtain ⟨bs, hl, hr⟩ := ih
      exact ⟨b :: bs, by rw [List.length_cons, List.length_cons, hl], .cons hb hr⟩
  obtain ⟨bs, hl, hr⟩ := key h4
  exact ⟨bs, by rw [hl, List.length_replicate], p, vs, h1, h2, h3, hr⟩
/-- for k in range(n), n not known -/
theorem ex_forRA {as : TA} {tb : TS} {jj : Nat} (h : EvA B ρ as [dat (tIn n) ()] ρ1) (hn : n ≤ 2 ^ 60) (Iv : Nat → List SV → Prop) (h0 : Iv 0 ρ1) (hj : ∀ i ρ, Iv i ρ → jj < ρ.length)
    (hs : ∀ (i : Nat) ρ, (i : Int) < n → Iv i ρ → ExS B (ρ.set jj (dat tInt (i : Int))) tb { N with nx := Iv (i + 1), ct := Iv (i + 1), bk := N.nx }) (hd : ∀ (m : Nat) ρ, (m : Int) < n → Iv m ρ → N.nx ρ) : ExS B ρ (tFor (iRng1 as) (gName jj) tb) N := fun H σ τ D st k1 k2 k3 k4 =>
  h H σ τ _ st fun vs H1 hl st1 => by
    match vs, hl, st1 with
    | [v], _, st1 =>
      obtain ⟨F, x, _, e1, m, m0, m1, e2⟩ := (show Core B H1 ((some v, dat (tIn n) ()) :: (τ ++ σ.zip ρ1)) from st1.core).d1
      cases e1
      cases e2
      refine ⟨m, rfl, by omega, by omega, for_range (lo := 0) (n := m.toNat) (fun i σ' H' => ∃ ρ', Iv i ρ' ∧ St B H' σ' ρ' τ) ⟨ρ1, h0, St.cut st1⟩ ?_ ?_⟩
      · rintro i σ' H' hi ⟨ρ', iv, st'⟩
        have c : Core B H' ((some (.int (0 + (i : Int))), dat tInt (i : Int)) :: (τ ++ σ'.zip ρ')) := st'.core.sc (fun F => by show V.int (0 + (i : Int)) = V.int (i : Int); rw [Int.zero_add])
        exact hs i ρ' (by omega) iv H' _ τ _ (St.asg ⟨st'.len, c⟩ (hj i ρ' iv)) (fun ρ2 H2 σ2 iv2 st2 => ⟨ρ2, iv2, st2⟩) (fun R ρ2 v H2 σ2 k st2 => k2 R ρ2 v H2 σ2 k st2) (fun ρ2 H2 σ2 k st2 => k1 ρ2 H2 σ2 k st2) (fun ρ2 H2 σ2 iv2 st2 => ⟨ρ2, iv2, st2⟩)
      · rintro σ' H' ⟨ρ', iv, st'⟩
        exact k1 ρ' H' σ' (hd m.toNat ρ' (by omega) iv) st'
/-- if, the test's value not known -/
theorem ex_ifA {t u : TS} (h : EvE B ρ te (dat tAB ()) ρ1) (h1 : ExS B ρ1 t N) (h2 : ExS B ρ1 u N) : ExS B ρ (tIfS (tTest te) t u) N := fun H σ τ D st k1 k2 k3 k4 =>
  h H σ τ _ st fun v H1 st1 => by
    obtain ⟨F, x, _, e1, b, e2⟩ := st1.core.d1
    cases e1; cases e2
    refine ⟨b, rfl, ?_⟩
    cases b with
    | true => exact h1 H1 σ τ D (St.cut st1) k1 k2 k3 k4
    | false => exact h2 H1 σ τ D (St.cut st1) k1 k2 k3 k4
/-- less is known of one slot -/
theorem ex_hide {t : TS} {s s' : SV} (h : ρ[i]? = some s) (ho : ∀ F H v fp, Same F H → s.ok B.io F H v fp → s'.ok B.io F H v fp) (k : ExS B (ρ.set i s') t N) : ExS B ρ t N :=
  ex_know (A := Unit) (s' := fun _ => s') h (fun F H v fp m q => ⟨(), ho F H v fp m q⟩) fun _ => k
end
end Sw
/-! text D21 -/
set_option maxHeartbeats 1000000
/-! D21: the drawn entries -/
namespace K79
open PySem PySem.Spec PyProof.Rows L2 Sw ItX
section
variable {P : Program} {w : World} {K : PySem.W.Frag} {mg : Str → Option Value} {base : Heap} (T : Tx w K mg)
theorem entries_eq : m__law_entries = allE := by decide +kernel
def oSrc : OTy Unit := ⟨fun F H x fp _ => ∃ s, okS s ∧ oSeq.rep F H x fp (src s), fun ⟨s, h1, h2⟩ m n => ⟨s, h1, OTy.stab _ h2 m n⟩⟩
def tPart : Ty Unit := ⟨fun F v _ => ∃ f : Str → Bool, (tList tStr).rep F v (allE.filter f), fun m ⟨f, h⟩ => ⟨f, Ty.mono _ m h⟩⟩
theorem oat_src : ∀ F H x fp, oSrc.rep F H x fp () → ∃ p, x = .ref p ∧ fp = [p] := fun F H x fp ⟨s, _, h⟩ => oat_seq F H x fp h
abbrev sp_drawA : Sp := spM (A := Int) (fun n => 0 < n ∧ n < 1000000) oSrc (fun _ => ()) (fun n => [dat tInt n]) (fun _ => ()) (fun n => dat (tIn n) ())
theorem core_hide {B : Bas} {H : Hp} {x : V} {v : Option V} {R R' : SV} {s : Src} {L : List En} (c : Core B H ((v, R) :: (some x, own x oSeq (src s)) :: L)) (hs : okS s) (hR : ∀ F fp, Same F H → R.ok B.io F H v fp → R'.ok B.io F H v fp) : Core B H ((v, R') :: (some x, own x oSrc ()) :: L) := by
  have c1 := c.weak (e' := (v, R')) fun F fp m h => .inl (hR F fp m h)
  have c2 := c1.swap.weak (e' := (some x, own x oSrc ())) fun F fp m ⟨h1, h2⟩ => .inl ⟨h1, s, hs, h2⟩
  exact c2.swap
theorem g_drawA (T : Tx w K mg) : Gn P w K mg base 1 "_law_draw" sp_drawA := gn_imp (g__law_draw T) fun vs H Q E h => by
  obtain ⟨n, F, fi, x, ws, hp, e, hl, pre, k⟩ := h
  cases fi with
  | nil => exact pre.sl.elim
  | cons fp fs =>
    obtain ⟨h1, s, hs, hr⟩ := pre.sl.1
    have ok := m_draw_ok (s := s) (size := n) hs hp.1
    exact ⟨(s, n), F, fp :: fs, x, ws, ⟨hs, hp⟩, e, hl, ⟨pre.fh, ⟨⟨h1, hr⟩, pre.sl.2⟩, pre.nd, pre.ow⟩, fun v H' c => k v H' (core_hide c ok.2.2 fun F fp _ ⟨q1, x, q2, q3⟩ => ⟨q1, x, q2, _, ok.1, ok.2.1, q3⟩)⟩
abbrev sp_pickA : Sp := spM (A := List Str) (fun row => 0 < row.length ∧ row.length < 1000) oSrc (fun _ => ()) (fun row => [dat (tList tStr) row]) (fun _ => ()) (fun row => dat (tOne row) ())
theorem ixD_nat {xs : List Str} {k : Nat} (h : k < xs.length) : ixD xs (k : Int) = xs[k] := by
  have e := atI_some (xs := xs) (i := (k : Int)) (by omega) (by omega)
  rw [atI_nat (List.getElem?_eq_getElem h)] at e
  exact (Option.some.inj e).symm
theorem ixD_mem {xs : List Str} {k : Int} (h0 : 0 ≤ k) (h1 : k < xs.length) : ixD xs k ∈ xs := by
  have e : ((k.toNat : Nat) : Int) = k := Int.toNat_of_nonneg h0
  have h2 : k.toNat < xs.length := by omega
  rw [← e, ixD_nat h2]
  exact List.getElem_mem h2
theorem g_pickA (T : Tx w K mg) : Gn P w K mg base 2 "_law_pick" sp_pickA := gn_imp (g__law_pick T) fun vs H Q E h => by
  obtain ⟨row, F, fi, x, ws, hp, e, hl, pre, k⟩ := h
  cases fi with
  | nil => exact pre.sl.elim
  | cons fp fs =>
    obtain ⟨h1, s, hs, hr⟩ := pre.sl.1
    have ok := m_draw_ok (s := s) (size := (row.length : Int)) hs (by have := hp.1; omega)
    exact ⟨(s, row), F, fp :: fs, x, ws, ⟨hs, hp⟩, e, hl, ⟨pre.fh, ⟨⟨h1, hr⟩, pre.sl.2⟩, pre.nd, pre.ow⟩, fun v H' c => k v H' (core_hide c ok.2.2 fun F fp _ ⟨q1, x, q2, q3⟩ => ⟨q1, x, q2, _, ixD_mem ok.1 ok.2.1, q3⟩)⟩
section
variable {B : Bas} {ρ ρ1 : List SV} {as : TA} {x : V} {n : Int} {i : Nat}
theorem ev_draw (h0 : ρ[i]? = some (own x oSrc ())) (h : EvA B ρ as [dat tInt n] ρ) (hp : 0 < n ∧ n < 1000000) (he : ρ.set i (own x oSrc ()) = ρ := by rfl) : EvE B ρ (tCl sp_drawA (tCons (tVar i) as)) (dat (tIn n) ()) ρ := by
  have := ev_callM (i := i) (pre := fun n : Int => 0 < n ∧ n < 1000000) (O := oSrc) (s0 := fun _ => ()) (ins := fun n => [dat tInt n]) (s1 := fun _ => ()) (res := fun n => dat (tIn n) ()) n h0 h h0 hp fr_l1
  rw [he] at this
  exact this
theorem ev_pick {row : List Str} (h0 : ρ[i]? = some (own x oSrc ())) (h : EvA B ρ as [dat (tList tStr) row] ρ) (hp : 0 < row.length ∧ row.length < 1000) (he : ρ.set i (own x oSrc ()) = ρ := by rfl) : EvE B ρ (tCl sp_pickA (tCons (tVar i) as)) (dat (tOne row) ()) ρ := by
  have := ev_callM (i := i) (pre := fun row : List Str => 0 < row.length ∧ row.length < 1000) (O := oSrc) (s0 := fun _ => ()) (ins := fun row => [dat (tList tStr) row]) (s1 := fun _ => ()) (res := fun row => dat (tOne row) ()) row h0 h h0 hp fr_l1
  rw [he] at this
  exact this
end
theorem in_open {n : Int} : ∀ (F : Hp) v, (tIn n).rep F v () → ∃ k, (0 ≤ k ∧ k < n) ∧ tInt.rep F v k := fun F v ⟨k, h1, h2, h3⟩ => ⟨k, ⟨h1, h2⟩, h3⟩
theorem one_open {row : List Str} : ∀ (F : Hp) v, (tOne row).rep F v () → ∃ s, s ∈ row ∧ tStr.rep F v s := fun F v ⟨s, h1, h2⟩ => ⟨s, h1, h2⟩
theorem part_open : ∀ (F : Hp) v, tPart.rep F v () → ∃ f : Str → Bool, True ∧ (tList tStr).rep F v (allE.filter f) := fun F v ⟨f, h⟩ => ⟨f, trivial, h⟩
theorem part_R (f : Str → Bool) : preR (allE.filter f) := ⟨Nat.le_trans (List.length_filter_le _ _) (by rw [allE_len]; decide), fun e he => (List.mem_filter.mp he).1⟩
/-- a choice by place is a choice -/
theorem pick_ex : ∀ (xs : List Str), xs.Nodup → ∀ p : Nat → Bool, ∃ f : Str → Bool, ((List.range xs.length).filter p).map (fun k : Nat => xs[k]?.getD default) = xs.filter f
  | [], _, _ => ⟨fun _ => true, rfl⟩
  | x :: r, nd, p => by
    obtain ⟨hx, hr⟩ := List.nodup_cons.mp nd
    obtain ⟨f, hf⟩ := pick_ex r hr (fun k => p (k + 1))
    refine ⟨fun e => if e = x then p 0 else f e, ?_⟩
    have h2 : r.filter (fun e => if e = x then p 0 else f e) = r.filter f := by
      apply List.filter_congr
      intro e he
      rw [if_neg (fun z : e = x => hx (by rw [← z]; exact he))]
    rw [List.filter_cons, if_pos rfl, h2, ← hf, List.length_cons, List.range_succ_eq_map, List.filter_cons, List.filter_map]
    have h3 : (((List.range r.length).filter (p ∘ Nat.succ)).map Nat.succ).map (fun k : Nat => (x :: r)[k]?.getD default) = ((List.range r.length).filter fun k => p (k + 1)).map (fun k : Nat => r[k]?.getD default) := by
      rw [List.map_map]
      rfl
    split
    · rw [List.map_cons, h3]; rfl
    · exact h3
theorem pick_by {xs : List Str} (nd : xs.Nodup) (p : Nat → Bool) : ∃ f : Str → Bool, ((List.range xs.length).filter p).map (fun k : Nat => ixD xs (k : Int)) = xs.filter f := by
  obtain ⟨f, hf⟩ := pick_ex xs nd p
  refine ⟨f, ?_⟩
  rw [← hf]
  apply List.map_congr_left
  intro k hk
  have hl := List.mem_range.mp (List.mem_filter.mp hk).1
  rw [ixD_nat hl, List.getElem?_eq_getElem hl]; rfl
theorem ixN_of {n : Nat} {k : Int} (h0 : 0 ≤ k) (h1 : k < n) : ixN n k = some k.toNat := by unfold ixN; rw [if_pos h0, if_pos h1]
theorem filt_true {α : Type} (xs : List α) : xs.filter (fun _ => true) = xs := by simp
theorem map_unit {α : Type} {n : Nat} {xs : List α} (h : xs.length = n) : xs.map (fun _ => ()) = List.replicate n () := by
  subst h
  induction xs with
  | nil => rfl
  | cons x xs ih => rw [List.map_cons, ih]; rfl
theorem EvE.is' {α : Type} {B : Bas} {ρ ρ' : List SV} {te : TE} {O : OTy α} {a a' : α} (h : EvE B ρ te (fre O a) ρ') (e : a = a') : EvE B ρ te (fre O a') ρ' := e ▸ h
/-! _law_some -/
abbrev s_some : Stmt := top 56
abbrev N_some : List Str := ["source", "rows", "kind", "kept", "flips", "word", "k", "look", "reserved", "at", "entry"]
theorem sc_some : FnScope N_some ["source"] (defScope s_some) := ⟨rfl, rfl, rfl, by decide +kernel, rfl, by decide +kernel, by decide +kernel⟩
abbrev U105 : List Unit := List.replicate 105 ()
abbrev sp_some : Sp := spM (A := Unit) (fun _ => True) oSrc (fun _ => ()) (fun _ => []) (fun _ => ()) (fun _ => dat tPart ())
/-- what holds of _law_some's slots between its parts -/
def Js (B : Bas) (x : V) (kd : Int) (r : List SV) : Prop := ∃ p, p ∉ B.io ∧ ∃ e5 e6 e7 e8 e9 e10, r = [own x oSrc (), dat (tList tStr) allE, dat tInt kd, own (.ref p) (oList tAB) U105, dat (tIn 9) (), e5, e6, e7, e8, e9, e10]
theorem frK {B : Bas} {ρ ρ' : List SV} {te : TE} {bs : List Bool} (hl : bs.length = 105) (h : EvE B ρ te (fre (oList tBl) bs) ρ') : EvE B ρ te (fre (oList tAB) U105) ρ' := by
  have := h.asO (O' := oList tAB) (b := List.replicate bs.length ()) ab_list
  rw [hl] at this
  exact this
theorem g_some (T : Tx w K mg) : Gn P w K mg base 3 "_law_some" sp_some := by
  have nd := sc_some.nd
  refine gn_of T.d__law_some sc_some (fun vs H Q E ⟨a, _, _, x, ws, _, e, hl, _⟩ => by rw [e]; simp [hl]) (fun _ _ _ _ _ _ us hl => match us, hl with | [_], _ => rfl) (fun f cdv A outer s H vs Q E hr h => ⟨_, (pss_cons (ps_set (i := 1) nd rfl (by first | exact Or.inl rfl | exact Or.inr rfl) (pe_cl0 (g__law_entries T) hr (by decide) rfl)) (pss_cons (ps_set (i := 2) nd rfl (by first | exact Or.inl rfl | exact Or.inr rfl) (pe_cl (g_drawA T) hr (by decide) rfl (pa_cons (pv 0) (pa_cons pe_int pa_nil)))) (pss_cons (ps_set (i := 3) nd rfl (by first | exact Or.inl rfl | exact Or.inr rfl) (pe_lc (own := [("entry", 10)]) (g := gName 10) (tt := tYes) (by rfl) nd (pi_list (pv 1)) (blkOk_by (own := [("entry", 10)]) (N := N_some) (sc := defScope s_some) (by decide +kernel)) (fun _ _ _ _ _ => pg_name (i := 10) nd rfl (Or.inl rfl)) (fun _ _ _ _ _ => pts_nil) (fun _ _ _ _ _ => pe_bl))) (pss_cons (ps_set (i := 4) nd rfl (by first | exact Or.inl rfl | exact Or.inr rfl) (pe_cl (g_drawA T) hr (by decide) rfl (pa_cons (pv 0) (pa_cons pe_int pa_nil)))) (pss_cons (ps_if (pt_cmpR op_eq (pv 2) pe_int (nomark _)) (pss_one (ps_set (i := 3) nd rfl (by first | exact Or.inl rfl | exact Or.inr rfl) (pe_lc (own := [("entry", 10)]) (g := gName 10) (tt := tYes) (by rfl) nd (pi_list (pv 1)) (blkOk_by (own := [("entry", 10)]) (N := N_some) (sc := defScope s_some) (by decide +kernel)) (fun _ _ _ _ _ => pg_name (i := 10) nd rfl (Or.inl rfl)) (fun _ _ _ _ _ => pts_nil) (fun _ _ _ _ _ => pe_bl)))) pss_nil) (pss_cons (ps_if (pt_cmpR op_eq (pv 2) pe_int (nomark _)) (pss_cons (ps_set (i := 5) nd rfl (by first | exact Or.inl rfl | exact Or.inr rfl) (pe_cl (g_pickA T) hr (by decide) rfl (pa_cons (pv 0) (pa_cons (pe_cl0 (g__law_relations T) hr (by decide) rfl) pa_nil)))) (pss_cons (ps_for PassesOwn.never rfl (pi_range1 rfl T.n_range (pa_cons (pe_callB call_len_seq (by rfl) T.n_len PySem.boot_len (pa_cons (pv 1) pa_nil)) pa_nil)) (pg_name (i := 6) nd rfl (by first | exact Or.inl rfl | exact Or.inr rfl)) (pss_one (ps_if (pt_cmpR (op_in_K (K := K) rfl) (pe_ix (ix_list_K (K := K) rfl) (pe_split (pe_ix (ix_list_K (K := K) rfl) (pv 1) (pv 6) (fun _ _ => rfl)) pe_str) pe_int (fun _ _ => rfl)) (pe_lst (pa_cons (pv 5) (pa_cons (pe_cl (g__law_inverse T) hr (by decide) rfl (pa_cons (pv 5) pa_nil)) pa_nil))) (by with_unfolding_all rfl)) (pss_one (ps_asg (pe_cmpR op_gt (pe_cl (g_drawA T) hr (by decide) rfl (pa_cons (pv 0) (pa_cons pe_int pa_nil))) pe_int (nomark _)) (pg_sub (pv 3) (pv 6) set_list))) pss_nil))) (pss_one (ps_set (i := 4) nd rfl (by first | exact Or.inl rfl | exact Or.inr rfl) pe_int)))) pss_nil) (pss_cons (ps_if (pt_cmpR op_eq (pv 2) pe_int (nomark _)) (pss_cons (ps_set (i := 7) nd rfl (by first | exact Or.inl rfl | exact Or.inr rfl) (pe_cl (g_pickA T) hr (by decide) rfl (pa_cons (pv 0) (pa_cons (pe_lst (pa_cons pe_str (pa_cons pe_str pa_nil))) pa_nil)))) (pss_cons (ps_set (i := 8) nd rfl (by first | exact Or.inl rfl | exact Or.inr rfl) (pe_cl (g_pickA T) hr (by decide) rfl (pa_cons (pv 0) (pa_cons (pe_lst (pa_cons pe_str (pa_cons pe_str pa_nil))) pa_nil)))) (pss_cons (ps_set (i := 3) nd rfl (by first | exact Or.inl rfl | exact Or.inr rfl) (pe_lc (own := [("entry", 10)]) (g := gName 10) (tt := tYes) (by rfl) nd (pi_list (pv 1)) (blkOk_by (own := [("entry", 10)]) (N := N_some) (sc := defScope s_some) (by decide +kernel)) (fun _ _ _ _ _ => pg_name (i := 10) nd rfl (Or.inl rfl)) (fun _ _ _ _ _ => pts_nil) (fun _ _ _ _ _ => (pe_not (pe_cl (g__law_harmful T) hr (by decide) rfl (pa_cons (pv 10) (pa_cons (pv 7) (pa_cons (pv 8) pa_nil)))))))) (pss_one (ps_set (i := 4) nd rfl (by first | exact Or.inl rfl | exact Or.inr rfl) (pe_op op_fdiv (pv 4) pe_int)))))) pss_nil) (pss_cons (ps_if (pt_cmpR op_eq (pv 2) pe_int (nomark _)) (pss_cons (ps_set (i := 3) nd rfl (by first | exact Or.inl rfl | exact Or.inr rfl) (pe_lc (own := [("entry", 10)]) (g := gName 10) (tt := tYes) (by rfl) nd (pi_list (pv 1)) (blkOk_by (own := [("entry", 10)]) (N := N_some) (sc := defScope s_some) (by decide +kernel)) (fun _ _ _ _ _ => pg_name (i := 10) nd rfl (Or.inl rfl)) (fun _ _ _ _ _ => pts_nil) (fun _ _ _ _ _ => (pe_cmpR op_eq (pe_cl (g_drawA T) hr (by decide) rfl (pa_cons (pv 0) (pa_cons pe_int pa_nil))) pe_int (nomark _))))) (pss_one (ps_set (i := 4) nd rfl (by first | exact Or.inl rfl | exact Or.inr rfl) pe_int))) pss_nil) (pss_cons (ps_for PassesOwn.never rfl (pi_range1 rfl T.n_range (pa_cons (pv 4) pa_nil)) (pg_name (i := 6) nd rfl (by first | exact Or.inl rfl | exact Or.inr rfl)) (pss_cons (ps_set (i := 9) nd rfl (by first | exact Or.inl rfl | exact Or.inr rfl) (pe_cl (g_drawA T) hr (by decide) rfl (pa_cons (pv 0) (pa_cons (pe_callB call_len_seq (by rfl) T.n_len PySem.boot_len (pa_cons (pv 1) pa_nil)) pa_nil)))) (pss_one (ps_asg (pe_not (pe_ix (ix_list_K (K := K) rfl) (pv 3) (pv 9) (fun _ _ => rfl))) (pg_sub (pv 3) (pv 9) set_list))))) (pss_one (ps_ret (pe_lc (own := [("k", 6)]) (g := gName 6) (by rfl) nd (pi_range1 rfl T.n_range (pa_cons (pe_callB call_len_seq (by rfl) T.n_len PySem.boot_len (pa_cons (pv 1) pa_nil)) pa_nil)) (blkOk_by (own := [("k", 6)]) (N := N_some) (sc := defScope s_some) (by decide +kernel)) (fun _ _ _ _ _ => pg_name (i := 6) nd rfl (Or.inl rfl)) (fun _ _ _ _ _ => (pts_one (pt_val (pe_ix (ix_list_K (K := K) rfl) (pv 3) (pv 6) (fun _ _ => rfl))))) (fun _ _ _ _ _ => (pe_ix (ix_list_K (K := K) rfl) (pv 1) (pv 6) (fun _ _ => rfl))))))))))))))), body_M h fun a B x hp => ?_⟩)
  refine ex_seq (ex_asg (i := 1) (R := dat (tList tStr) allE) ((cl__law_entries (T := T) () ea_nil trivial).lst.is entries_eq) (by show _ < 11; decide) ?_)
  refine ex_seq (ex_asg (i := 2) (ev_draw (i := 0) (n := 6) rfl (ea_cons ev_int ea_nil) (by decide)) (by show _ < 11; decide) ?_)
  refine ex_openD (i := 2) (T := tInt) rfl in_open fun kd hkd => ?_
  refine ex_seq (ex_asgO (i := 3) (frK (bs := allE.map fun _ => false) (by rw [List.length_map, allE_len]) (EvE.is' (ev_lcL (U := tBl) (fun _ => true) (fun _ => false) (EvE.row (K := K) (ev_var rfl)) (by show _ < 11; decide) (by rw [allE_len]; decide) (fun _ _ => et_yes) (fun _ _ _ => ev_bl)) (by rw [filt_true]))) (by show _ < 11; decide) oat_list fun p hp => ?_)
  refine ex_seq (ex_asg (i := 4) (ev_draw (i := 0) (n := 9) rfl (ea_cons ev_int ea_nil) (by decide)) (by show _ < 11; decide) ?_)
  refine ex_seqP (Js B x kd) ?_ fun r hr => ?_
  · refine ex_if (et_test (ev_eqI (ev_var rfl) ev_int)) (fun h1 => ?_) (fun h1 => ?_)
    · refine ex_asgO (i := 3) (frK (bs := allE.map fun _ => true) (by rw [List.length_map, allE_len]) (EvE.is' (ev_lcL (U := tBl) (fun _ => true) (fun _ => true) (EvE.row (K := K) (ev_var rfl)) (by show _ < 11; decide) (by rw [allE_len]; decide) (fun _ _ => et_yes) (fun _ _ _ => ev_bl)) (by rw [filt_true]))) (by show _ < 11; decide) oat_list fun p hp => ?_
      exact ⟨p, hp, _, _, _, _, _, _, rfl⟩
    · exact ex_next ⟨p, hp, _, _, _, _, _, _, rfl⟩
  obtain ⟨p, hp, e5, e6, e7, e8, e9, e10, rfl⟩ := hr
  refine ex_seqP (Js B x kd) ?_ fun r hr => ?_
  · refine ex_if (et_test (ev_eqI (ev_var rfl) ev_int)) (fun h1 => ?_) (fun h1 => ex_next ⟨p, hp, _, _, _, _, _, _, rfl⟩)
    refine ex_seq (ex_asg (i := 5) (ev_pick (i := 0) (row := m__law_relations) rfl (ea_cons (cl__law_relations (T := T) () ea_nil trivial).lst ea_nil) (by decide +kernel)) (by show _ < 11; decide) ?_)
    refine ex_openD (i := 5) (T := tStr) rfl one_open fun wd hwd => ?_
    refine ex_seq (ex_forR (Iv := fun _ r => ∃ e6, r = [own x oSrc (), dat (tList tStr) allE, dat tInt kd, own (.ref p) (oList tAB) U105, dat (tIn 9) (), dat tStr wd, e6, e7, e8, e9, e10]) (ea_cons (ev_lenL (ea_cons (EvE.row (K := K) (ev_var rfl)) ea_nil)) ea_nil) (by rw [allE_len]; decide) ⟨_, rfl⟩ (fun i r ⟨e, h⟩ => by rw [h]; show 6 < 11; decide) (fun i r hi ⟨e, h⟩ => ?_) (fun r ⟨e, h⟩ => ?_))
    · subst h
      rw [allE_len] at hi
      have hi' : i < 105 := by simpa using hi
      have he : ixD allE (i : Int) ∈ allE := ixD_mem (by omega) (by rw [allE_len]; omega)
      obtain ⟨hsp, e0, e1, e2, hle⟩ := e_facts _ he
      refine ex_if (et_test (ev_isL (ev_ixL (a := w2 (ixD allE (i : Int))) (EvE.row (K := K) (fr_split rfl (ev_ixL (a := ixD allE (i : Int)) (EvE.row (K := K) (ev_var rfl)) (ev_var rfl) (atI_some (by omega) (by rw [allE_len]; omega))) ev_str (by first | rfl | decide +kernel) (by rw [sizeLine_eq]; omega)).lst) ev_int (by rw [hsp]; exact rfl)) (EvE.row (K := K) (ev_lst (T := tStr) (xs := [wd, m_inverse wd]) (ea_cons (ev_var rfl) (ea_cons (cl__law_inverse wd (ea_cons (ev_var rfl) ea_nil) hwd) ea_nil)) (by show 2 ≤ sizeLine; decide))))) (fun h2 => ?_) (fun h2 => ex_next ⟨_, rfl⟩)
      refine ex_setO (i := 3) (T := tAB) (a := ()) (n := i) (ev_cmpIn (ev_draw (i := 0) (n := 4) rfl (ea_cons ev_int ea_nil) (by decide)) ev_int) rfl (ev_var rfl) rfl (by rw [ixN_of (by omega) (by rw [List.length_replicate]; omega)]; simp) ⟨_, by rw [rep_set]; rfl⟩
    · subst h
      refine ex_asg (i := 4) (R := dat (tIn 9) ()) (ev_int.as fun F v e => ⟨0, by decide, by decide, e⟩) (by show _ < 11; decide) ⟨p, hp, _, _, _, _, _, _, rfl⟩
  obtain ⟨p, hp, e5, e6, e7, e8, e9, e10, rfl⟩ := hr
  refine ex_seqP (Js B x kd) ?_ fun r hr => ?_
  · refine ex_if (et_test (ev_eqI (ev_var rfl) ev_int)) (fun h1 => ?_) (fun h1 => ex_next ⟨p, hp, _, _, _, _, _, _, rfl⟩)
    have two : EvE B [own x oSrc (), dat (tList tStr) allE, dat tInt kd, own (.ref p) (oList tAB) U105, dat (tIn 9) (), e5, e6, e7, e8, e9, e10] (tLst (tCons (tC (.str "fresh")) (tCons (tC (.str "kept")) tNil))) (dat (tList tStr) [("fresh" : Str), "kept"]) [own x oSrc (), dat (tList tStr) allE, dat tInt kd, own (.ref p) (oList tAB) U105, dat (tIn 9) (), e5, e6, e7, e8, e9, e10] := ev_lst (T := tStr) (xs := [("fresh" : Str), "kept"]) (ea_cons ev_str (ea_cons ev_str ea_nil)) (by show 2 ≤ sizeLine; decide)
    refine ex_seq (ex_asg (i := 7) (ev_pick (i := 0) (row := [("fresh" : Str), "kept"]) rfl (ea_cons (ev_lst (T := tStr) (xs := [("fresh" : Str), "kept"]) (ea_cons ev_str (ea_cons ev_str ea_nil)) (by show 2 ≤ sizeLine; decide)) ea_nil) (by show 0 < 2 ∧ 2 < 1000; decide)) (by show _ < 11; decide) ?_)
    refine ex_openD (i := 7) (T := tStr) rfl one_open fun lk hlk => ?_
    refine ex_seq (ex_asg (i := 8) (ev_pick (i := 0) (row := [("fresh" : Str), "kept"]) rfl (ea_cons (ev_lst (T := tStr) (xs := [("fresh" : Str), "kept"]) (ea_cons ev_str (ea_cons ev_str ea_nil)) (by show 2 ≤ sizeLine; decide)) ea_nil) (by show 0 < 2 ∧ 2 < 1000; decide)) (by show _ < 11; decide) ?_)
    refine ex_openD (i := 8) (T := tStr) rfl one_open fun rs hrs => ?_
    refine ex_seq (ex_asgO (i := 3) (frK (bs := allE.map fun e => !m__law_harmful e lk rs) (by rw [List.length_map, allE_len]) (EvE.is' (ev_lcL (U := tBl) (fun _ => true) (fun e => !m__law_harmful e lk rs) (EvE.row (K := K) (ev_var rfl)) (by show _ < 11; decide) (by rw [allE_len]; decide) (fun _ _ => et_yes) (fun e he _ => ev_not (cl__law_harmful (T := T) (e, lk, rs) (ea_cons (ev_var rfl) (ea_cons (ev_var rfl) (ea_cons (ev_var rfl) ea_nil))) he))) (by rw [filt_true]))) (by show _ < 11; decide) oat_list fun p hp => ?_)
    exact ex_asg (i := 4) (ev_divIn (ev_var rfl) ev_int) (by show _ < 11; decide) ⟨p, hp, _, _, _, _, _, _, rfl⟩
  obtain ⟨p, hp, e5, e6, e7, e8, e9, e10, rfl⟩ := hr
  refine ex_seqP (Js B x kd) ?_ fun r hr => ?_
  · refine ex_if (et_test (ev_eqI (ev_var rfl) ev_int)) (fun h1 => ?_) (fun h1 => ex_next ⟨p, hp, _, _, _, _, _, _, rfl⟩)
    refine ex_seq (ex_asgO (i := 3) (O := oList tAB) (a := U105) (EvE.is' (ev_lcL (U := tAB) (fun _ => true) (fun _ => ()) (EvE.row (K := K) (ev_var rfl)) (by show _ < 11; decide) (by rw [allE_len]; decide) (fun _ _ => et_yes) (fun e he _ => ev_eqIn (ev_draw (i := 0) (n := 2) rfl (ea_cons ev_int ea_nil) (by decide)) ev_int)) (by rw [filt_true]; exact map_unit allE_len)) (by show _ < 11; decide) oat_list fun p hp => ?_)
    exact ex_asg (i := 4) (R := dat (tIn 9) ()) (ev_int.as fun F v e => ⟨0, by decide, by decide, e⟩) (by show _ < 11; decide) ⟨p, hp, _, _, _, _, _, _, rfl⟩
  obtain ⟨p, hp, e5, e6, e7, e8, e9, e10, rfl⟩ := hr
  refine ex_openD (i := 4) (T := tInt) rfl in_open fun fl hfl => ?_
  refine ex_seq (ex_forR (Iv := fun _ r => ∃ e6 e9, r = [own x oSrc (), dat (tList tStr) allE, dat tInt kd, own (.ref p) (oList tAB) U105, dat tInt fl, e5, e6, e7, e8, e9, e10]) (ea_cons (ev_var rfl) ea_nil) ⟨by omega, by omega⟩ ⟨_, _, rfl⟩ (fun i r ⟨e, e', h⟩ => by rw [h]; show 6 < 11; decide) (fun i r hi ⟨e, e', h⟩ => ?_) (fun r ⟨e, e', h⟩ => ?_))
  · subst h
    refine ex_seq (ex_asg (i := 9) (ev_draw (i := 0) (n := ((allE.length : Nat) : Int)) rfl (ea_cons (ev_lenL (ea_cons (EvE.row (K := K) (ev_var rfl)) ea_nil)) ea_nil) (by rw [allE_len]; decide)) (by show _ < 11; decide) ?_)
    refine ex_openD (i := 9) (T := tInt) rfl in_open fun at' hat => ?_
    rw [allE_len] at hat
    refine ex_setO (i := 3) (T := tAB) (a := ()) (n := at'.toNat) (ev_notA (ev_ixO (T := tAB) (a := ()) (m := 3) (xs := U105) (k := at') (ev_varO rfl) (ev_var rfl) rfl (by rw [atI_some hat.1 (by rw [List.length_replicate]; omega)]))) rfl (ev_var rfl) rfl (ixN_of hat.1 (by rw [List.length_replicate]; omega)) ⟨_, _, by rw [rep_set]; rfl⟩
  subst h
  refine ex_openO (i := 3) (O' := oList tBl) rfl (fun F H fp h => ab_open (n := 105) F H _ fp h) fun bs hbs => ?_
  refine ex_ret (R := dat tPart ()) (EvE.as (ev_lcR (U := tStr) (fun k : Nat => ixD bs (k : Int)) (fun k : Nat => ixD allE (k : Int)) (ea_cons (ev_lenL (ea_cons (EvE.row (K := K) (ev_var rfl)) ea_nil)) ea_nil) (by show _ < 11; decide) (by rw [allE_len]; decide) (fun k hk => et_B (ev_ixO (T := tBl) (a := ixD bs (k : Int)) (m := 3) (xs := bs) (ev_varO rfl) (ev_var rfl) rfl (atI_some (by omega) (by rw [hbs]; rw [allE_len] at hk; simp at hk; omega)))) (fun k hk _ => ev_ixL (a := ixD allE (k : Int)) (EvE.row (K := K) (ev_var rfl)) (ev_var rfl) (atI_some (by omega) (by rw [allE_len] at hk ⊢; simp at hk; omega)))).lst fun F v r => ?_) ?_
  · obtain ⟨g, hg⟩ := pick_by allE_nd fun k : Nat => ixD bs (k : Int)
    refine ⟨g, ?_⟩
    rw [← hg]
    exact r
  · exact ⟨rfl, rfl⟩
end
end K79
/-! text D22 -/
set_option maxHeartbeats 1000000
/-! D22: the drawn entries -/
namespace K79
open PySem PySem.Spec PyProof.Rows L2 Sw ItX
section
variable {P : Program} {w : World} {K : PySem.W.Frag} {mg : Str → Option Value} {base : Heap} (T : Tx w K mg)
/-! _law_few -/
abbrev s_few : Stmt := top 57
abbrev N_few : List Str := ["source", "most", "rows", "word", "near", "wanted", "k", "row", "entry"]
theorem sc_few : FnScope N_few ["source", "most"] (defScope s_few) := ⟨rfl, rfl, rfl, by decide +kernel, rfl, by decide +kernel, by decide +kernel⟩
abbrev nearOf (wd : Str) : List Str := allE.filter fun e => decide (ixD (Txt.split e (" " : Str)) 2 ∈ [wd, m_inverse wd])
theorem near_ok : ∀ wd ∈ c_RELATIONS, 0 < (nearOf wd).length := by decide +kernel
theorem near_len (wd : Str) : (nearOf wd).length < 1000 := Nat.lt_of_le_of_lt (List.length_filter_le _ _) (by rw [allE_len]; decide)
theorem as_one {row : List Str} : ∀ (F : Hp) v, (tOne row).rep F v () → tAS.rep F v () := fun F v ⟨s, _, h⟩ => ⟨s, h⟩
abbrev sp_few : Sp := spM (A := Int) (fun n => 0 ≤ n ∧ n < 1000) oSrc (fun _ => ()) (fun n => [dat tInt n]) (fun _ => ()) (fun _ => dat tPart ())
theorem g_few (T : Tx w K mg) : Gn P w K mg base 3 "_law_few" sp_few := by
  have nd := sc_few.nd
  refine gn_of T.d__law_few sc_few (fun vs H Q E ⟨a, _, _, x, ws, _, e, hl, _⟩ => by rw [e]; simp [hl]) (fun _ _ _ _ _ _ us hl => match us, hl with | [_, _], _ => rfl) (fun f cdv A outer s H vs Q E hr h => ⟨_, (pss_cons (ps_set (i := 2) nd rfl (by first | exact Or.inl rfl | exact Or.inr rfl) (pe_cl0 (g__law_entries T) hr (by decide) rfl)) (pss_cons (ps_set (i := 3) nd rfl (by first | exact Or.inl rfl | exact Or.inr rfl) (pe_cl (g_pickA T) hr (by decide) rfl (pa_cons (pv 0) (pa_cons (pe_cl0 (g__law_relations T) hr (by decide) rfl) pa_nil)))) (pss_cons (ps_setLc (i := 4) (own := [("entry", 8)]) (g := gName 8) (by rfl) nd rfl rfl (sw_true rfl rfl rfl (by decide +kernel)) (pi_list (pv 2)) (blkOk_by (own := [("entry", 8)]) (N := N_few) (sc := defScope s_few) (by decide +kernel)) (fun _ _ _ _ _ => pg_name (i := 8) nd rfl (Or.inl rfl)) (fun _ _ _ _ _ => (pts_one (pt_cmpR (op_in_K (K := K) rfl) (pe_ix (ix_list_K (K := K) rfl) (pe_split (pv 8) pe_str) pe_int (fun _ _ => rfl)) (pe_lst (pa_cons (pv 3) (pa_cons (pe_cl (g__law_inverse T) hr (by decide) rfl (pa_cons (pv 3) pa_nil)) pa_nil))) (by with_unfolding_all rfl)))) (fun _ _ _ _ _ => (pv 8))) (pss_cons (ps_set (i := 5) nd rfl (by first | exact Or.inl rfl | exact Or.inr rfl) (pe_lst pa_nil)) (pss_cons (ps_for PassesOwn.never rfl (pi_range1 rfl T.n_range (pa_cons (pe_cl (g_drawA T) hr (by decide) rfl (pa_cons (pv 0) (pa_cons (pe_op op_add (pv 1) pe_int) pa_nil))) pa_nil)) (pg_name (i := 6) nd rfl (by first | exact Or.inl rfl | exact Or.inr rfl)) (pss_cons (ps_set (i := 7) nd rfl (by first | exact Or.inl rfl | exact Or.inr rfl) (pv 4)) (pss_cons (ps_if (pt_cmpR op_eq (pe_cl (g_drawA T) hr (by decide) rfl (pa_cons (pv 0) (pa_cons pe_int pa_nil))) pe_int (nomark _)) (pss_one (ps_set (i := 7) nd rfl (by first | exact Or.inl rfl | exact Or.inr rfl) (pv 2))) pss_nil) (pss_one (ps_expr (pe_bm PySem.F.plainAttrs_list PySem.F.slot_list_append PySem.F.type_list_append mt_append (pv 5) (pa_cons (pe_cl (g_pickA T) hr (by decide) rfl (pa_cons (pv 0) (pa_cons (pv 7) pa_nil))) pa_nil))))))) (pss_one (ps_ret (pe_lc (own := [("entry", 8)]) (g := gName 8) (by rfl) nd (pi_list (pv 2)) (blkOk_by (own := [("entry", 8)]) (N := N_few) (sc := defScope s_few) (by decide +kernel)) (fun _ _ _ _ _ => pg_name (i := 8) nd rfl (Or.inl rfl)) (fun _ _ _ _ _ => (pts_one (pt_cmpR (op_in_K (K := K) rfl) (pv 8) (pv 5) (by with_unfolding_all rfl)))) (fun _ _ _ _ _ => (pv 8)))))))))), body_M h fun a B x hp => ?_⟩)
  obtain ⟨ha0, ha1⟩ := hp
  refine ex_seq (ex_asg (i := 2) (R := dat (tList tStr) allE) ((cl__law_entries (T := T) () ea_nil trivial).lst.is entries_eq) (by show _ < 9; decide) ?_)
  refine ex_seq (ex_asg (i := 3) (ev_pick (i := 0) (row := m__law_relations) rfl (ea_cons (cl__law_relations (T := T) () ea_nil trivial).lst ea_nil) (by decide +kernel)) (by show _ < 9; decide) ?_)
  refine ex_openD (i := 3) (T := tStr) rfl one_open fun wd hwd => ?_
  refine ex_seq (ex_asg (i := 4) (R := dat (tList tStr) (nearOf wd)) ((ev_lcL (U := tStr) (fun e => decide (ixD (Txt.split e (" " : Str)) 2 ∈ [wd, m_inverse wd])) (fun e => e) (EvE.row (K := K) (ev_var rfl)) (by show _ < 9; decide) (by rw [allE_len]; decide) (fun e he => ?_) (fun e _ _ => ev_var rfl)).lst.is (List.map_id' _)) (by show _ < 9; decide) ?_)
  · obtain ⟨hsp, e0, e1, e2, hle⟩ := e_facts _ he
    exact et_test (ev_isL (ev_ixL (a := ixD (Txt.split e (" " : Str)) 2) (EvE.row (K := K) (fr_split rfl (ev_var rfl) ev_str (by first | rfl | decide +kernel) (by rw [sizeLine_eq]; omega)).lst) ev_int (by rw [hsp]; exact rfl)) (EvE.row (K := K) (ev_lst (T := tStr) (xs := [wd, m_inverse wd]) (ea_cons (ev_var rfl) (ea_cons (cl__law_inverse wd (ea_cons (ev_var rfl) ea_nil) hwd) ea_nil)) (by show 2 ≤ sizeLine; decide))))
  refine ex_seq (ex_asgO (i := 5) (O := oList tAS) (a := List.replicate 0 ()) (fr_lst (T := tAS) (xs := ([] : List Unit)) ea_nil (by show 0 ≤ sizeLine; decide)) (by show _ < 9; decide) oat_list (fun p hp => ?_))
  refine ex_seq (ex_forRA (n := a + 1) (Iv := fun i r => ∃ e6 e7, r = [own x oSrc (), dat tInt a, dat (tList tStr) allE, dat tStr wd, dat (tList tStr) (nearOf wd), own (.ref p) (oList tAS) (List.replicate i ()), e6, e7, any]) (ea_cons (ev_draw (i := 0) (n := a + 1) rfl (ea_cons (ev_add (ev_var rfl) ev_int) ea_nil) ⟨by omega, by omega⟩) ea_nil) (by omega) ⟨_, _, rfl⟩ (fun i r ⟨e, e', h⟩ => by rw [h]; show 6 < 9; decide) (fun i r hi ⟨e, e', h⟩ => ?_) (fun m r hm ⟨e, e', h⟩ => ?_))
  · subst h
    refine ex_seq (ex_asg (i := 7) (ev_var (T := tList tStr) (a := nearOf wd) rfl) (by show _ < 9; decide) ?_)
    refine ex_seqP (fun r => ∃ row e6, (0 < row.length ∧ row.length < 1000) ∧ r = [own x oSrc (), dat tInt a, dat (tList tStr) allE, dat tStr wd, dat (tList tStr) (nearOf wd), own (.ref p) (oList tAS) (List.replicate i ()), e6, dat (tList tStr) row, any]) ?_ fun r hr => ?_
    · refine ex_ifA (ev_eqIn (ev_draw (i := 0) (n := 4) rfl (ea_cons ev_int ea_nil) (by decide)) ev_int) ?_ ?_
      · exact ex_asg (i := 7) (ev_var (T := tList tStr) (a := allE) rfl) (by show _ < 9; decide) ⟨_, _, by rw [allE_len]; decide, rfl⟩
      · exact ex_next ⟨_, _, ⟨near_ok wd hwd, near_len wd⟩, rfl⟩
    · obtain ⟨row, e6, hrow, rfl⟩ := hr
      refine ex_append (i := 5) (T := tAS) (a := ()) rfl ((ev_pick (i := 0) (row := row) rfl (ea_cons (ev_var rfl) ea_nil) hrow).as as_one) rfl (by rw [List.length_replicate]; omega) ⟨e6, dat (tList tStr) row, ?_⟩
      rw [← List.replicate_succ']
      rfl
  subst h
  refine ex_openO (i := 5) (O' := oList tStr) rfl (fun F H fp h => as_open (n := m) F H _ fp h) fun ss hss => ?_
  refine ex_ret (R := dat tPart ()) (EvE.as (ev_lcL (U := tStr) (fun e => decide (e ∈ ss)) (fun e => e) (EvE.row (K := K) (ev_var (T := tList tStr) (a := allE) rfl)) (by show _ < 9; decide) (by rw [allE_len]; decide) (fun e he => et_test (ev_isO (m := 5) (ev_var rfl) (ev_varO rfl) rfl)) (fun e _ _ => ev_var rfl)).lst fun F v r => ?_) ?_
  · rw [List.map_id'] at r
    exact ⟨_, r⟩
  · exact ⟨rfl, rfl⟩
/-! _law_drawn_entries -/
abbrev s_drawn : Stmt := top 60
abbrev N_drawn : List Str := ["source", "entries", "entry"]
theorem sc_drawn : FnScope N_drawn ["source"] (defScope s_drawn) := ⟨rfl, rfl, rfl, by decide +kernel, rfl, by decide +kernel, by decide +kernel⟩
abbrev sp_drawn : Sp := spM (A := Unit) (fun _ => True) oSrc (fun _ => ()) (fun _ => []) (fun _ => ()) (fun _ => dat tPart ())
theorem g_drawn (T : Tx w K mg) : Gn P w K mg base 4 "_law_drawn_entries" sp_drawn := by
  have nd := sc_drawn.nd
  refine gn_of T.d__law_drawn_entries sc_drawn (fun vs H Q E ⟨a, _, _, x, ws, _, e, hl, _⟩ => by rw [e]; simp [hl]) (fun _ _ _ _ _ _ us hl => match us, hl with | [_], _ => rfl) (fun f cdv A outer s H vs Q E hr h => ⟨_, (pss_cons (ps_set (i := 1) nd rfl (by first | exact Or.inl rfl | exact Or.inr rfl) (pe_cl (g_some T) hr (by decide) rfl (pa_cons (pv 0) pa_nil))) (pss_cons (ps_if (pt_cmpR op_eq (pe_cl (g_drawA T) hr (by decide) rfl (pa_cons (pv 0) (pa_cons pe_int pa_nil))) pe_int (nomark _)) (pss_one (ps_set (i := 1) nd rfl (by first | exact Or.inl rfl | exact Or.inr rfl) (pe_cl (g_few T) hr (by decide) rfl (pa_cons (pv 0) (pa_cons pe_int pa_nil))))) pss_nil) (pss_cons (ps_if (pt_cmpR op_eq (pe_cl (g_drawA T) hr (by decide) rfl (pa_cons (pv 0) (pa_cons pe_int pa_nil))) pe_int (nomark _)) (pss_one (ps_setLc (i := 1) (own := [("entry", 2)]) (g := gName 2) (by rfl) nd rfl rfl (sw_true rfl rfl rfl (by decide +kernel)) (pi_list (pv 1)) (blkOk_by (own := [("entry", 2)]) (N := N_drawn) (sc := defScope s_drawn) (by decide +kernel)) (fun _ _ _ _ _ => pg_name (i := 2) nd rfl (Or.inl rfl)) (fun _ _ _ _ _ => (pts_one (pt_not (pt_val (pe_cl (g__law_harmful T) hr (by decide) rfl (pa_cons (pv 2) (pa_cons pe_str (pa_cons pe_str pa_nil)))))))) (fun _ _ _ _ _ => (pv 2)))) pss_nil) (pss_one (ps_ret (pv 1)))))), body_M h fun a B x hp => ?_⟩)
  refine ex_seq (ex_asg (i := 1) (ev_callM (i := 0) (pre := fun _ : Unit => True) (O := oSrc) (s0 := fun _ => ()) (ins := fun _ => []) (s1 := fun _ => ()) (res := fun _ => dat tPart ()) () rfl ea_nil rfl trivial fr_nil) (by show _ < 3; decide) ?_)
  refine ex_seqP (fun r => r = [own x oSrc (), dat tPart (), any]) ?_ fun r hr => ?_
  · refine ex_ifA (ev_eqIn (ev_draw (i := 0) (n := 2) rfl (ea_cons ev_int ea_nil) (by decide)) ev_int) ?_ (ex_next rfl)
    exact ex_asg (i := 1) (ev_callM (i := 0) (pre := fun n : Int => 0 ≤ n ∧ n < 1000) (O := oSrc) (s0 := fun _ => ()) (ins := fun n => [dat tInt n]) (s1 := fun _ => ()) (res := fun _ => dat tPart ()) (12 : Int) rfl (ea_cons ev_int ea_nil) rfl (by decide) fr_l1) (by show _ < 3; decide) rfl
  subst hr
  refine ex_seqP (fun r => r = [own x oSrc (), dat tPart (), any]) ?_ fun r hr => ?_
  · refine ex_ifA (ev_eqIn (ev_draw (i := 0) (n := 2) rfl (ea_cons ev_int ea_nil) (by decide)) ev_int) ?_ (ex_next rfl)
    refine ex_openD (i := 1) (T := tList tStr) rfl (P := fun a => ∃ f : Str → Bool, a = allE.filter f) (fun F v ⟨f, h⟩ => ⟨_, ⟨f, rfl⟩, h⟩) fun a ⟨f, hf⟩ => ?_
    subst hf
    refine ex_asg (i := 1) (R := dat tPart ()) (EvE.as (ev_lcL (U := tStr) (fun e => !m__law_harmful e "fresh" "fresh") (fun e => e) (EvE.row (K := K) (ev_var rfl)) (by show _ < 3; decide) (Nat.le_trans (List.length_filter_le _ _) (by rw [allE_len]; decide)) (fun e he => et_not (et_B (cl__law_harmful (T := T) (e, "fresh", "fresh") (ea_cons (ev_var rfl) (ea_cons ev_str (ea_cons ev_str ea_nil))) (List.mem_filter.mp he).1))) (fun e _ _ => ev_var rfl)).lst fun F v r => ?_) (by show _ < 3; decide) rfl
    rw [List.map_id', List.filter_filter] at r
    exact ⟨_, r⟩
  subst hr
  exact ex_ret (ev_var rfl) ⟨rfl, rfl⟩
end
end K79
/-! text Pl8 -/
/-! Pl8: live parts, joins of them, and what strongest tells of them. -/
namespace K79
open PySem PySem.Spec PyProof.Rows L2 Sw
/-- what an entry leans on: nothing, or one of these -/
def deps (e : Str) : Option (List Str) :=
  if w1 e ∈ c_STRONG then some (((Str.empty ++ w0 e ++ (" reserve " : Str)) ++ w2 e) :: (if w0 e = ("reserved" : Str) then [] else [(Str.empty ++ ("reserved lend " : Str)) ++ m_inverse (w2 e)]))
  else if w0 e = ("reserved" : Str) ∧ w1 e = ("reserve" : Str) then some (c_STRONG.map fun s => ((Str.empty ++ ("reserved " : Str) ++ s) ++ (" " : Str)) ++ w2 e) else none
def liv (p : Str → Bool) (e : Str) : Bool := match deps e with
  | none => true
  | some ds => ds.any p
theorem is_live_eq (e : Str) (a : List Str) : m_is_live e (accD (fun _ => true) (fun entry => entry) (fun entry => true) a) = liv (fun x => decide (x ∈ a)) e := by
  unfold m_is_live liv deps
  simp only [has_eq]
  by_cases h1 : w1 e ∈ c_STRONG
  · rw [if_pos (decide_eq_true h1), if_pos h1]
    by_cases h2 : w0 e = ("reserved" : Str)
    · rw [if_pos h2, decide_eq_true h2]
      simp only [List.any_cons, List.any_nil, Bool.or_false, Bool.not_true, Bool.false_and]
      split <;> simp_all
    · rw [if_neg h2, decide_eq_false h2]
      simp only [List.any_cons, List.any_nil, Bool.or_false, Bool.not_false, Bool.true_and]
      split
      · rename_i h3
        rw [h3]; rfl
      · rename_i h3
        rw [Bool.not_eq_true] at h3
        rw [h3]; rfl
  · rw [if_neg (by simpa using h1), if_neg h1]
    by_cases h2 : w0 e = ("reserved" : Str) ∧ w1 e = ("reserve" : Str)
    · rw [if_pos (by rw [decide_eq_true h2.1, decide_eq_true h2.2]; rfl), if_pos h2]
      simp only [List.any_map]
      rw [show (c_STRONG.filter fun _ => true) = c_STRONG from by simp]
      rfl
    · rw [if_neg (fun z => h2 (by simpa using z)), if_neg h2]
theorem dep_ok : ∀ e ∈ allE, ∀ ds, deps e = some ds → ∀ x ∈ ds, x ∈ allE ∧ (deps x = none ∨ ∃ d2, deps x = some d2 ∧ e ∈ d2) := by
  have h : ∀ e ∈ allE, (match deps e with | none => true | some ds => ds.all fun x => decide (x ∈ allE) && (match deps x with | none => true | some d2 => decide (e ∈ d2))) = true := by decide +kernel
  intro e he ds hd x hx
  have h1 := h e he
  rw [hd] at h1
  have h2 := List.all_eq_true.mp h1 x hx
  rw [Bool.and_eq_true] at h2
  refine ⟨of_decide_eq_true h2.1, ?_⟩
  cases hq : deps x with
  | none => exact .inl rfl
  | some d2 =>
    have h3 := h2.2
    rw [hq] at h3
    exact .inr ⟨d2, rfl, of_decide_eq_true h3⟩
theorem live_fil (rows : List Str) : m__law_live rows = rows.filter (liv fun x => decide (x ∈ rows)) := by
  rw [← live_eq]
  unfold m_live_among
  rw [List.map_id']
  exact List.filter_congr fun e _ => is_live_eq e rows
/-- parts of the table, by their choice -/
abbrev part (f : Str → Bool) : List Str := allE.filter f
def lvf (f : Str → Bool) : Str → Bool := fun e => f e && liv (fun x => decide (x ∈ part f)) e
theorem live_part (f : Str → Bool) : m__law_live (part f) = part (lvf f) := by
  rw [live_fil, List.filter_filter]
  exact List.filter_congr fun e _ => by unfold lvf; rw [Bool.and_comm]
theorem liv_mono {p q : Str → Bool} (h : ∀ x, p x = true → q x = true) {e : Str} (l : liv p e = true) : liv q e = true := by
  unfold liv at *
  cases hd : deps e with
  | none => rfl
  | some ds =>
    rw [hd] at l
    obtain ⟨x, hx, px⟩ := List.any_eq_true.mp l
    exact List.any_eq_true.mpr ⟨x, hx, h x px⟩
/-- what is live in a part is live in its live part -/
theorem live_live {f : Str → Bool} {e : Str} (he : e ∈ part (lvf f)) : liv (fun x => decide (x ∈ part (lvf f))) e = true := by
  obtain ⟨hE, hl⟩ := List.mem_filter.mp he
  unfold lvf at hl
  rw [Bool.and_eq_true] at hl
  have l := hl.2
  unfold liv at *
  cases hd : deps e with
  | none => rfl
  | some ds =>
    rw [hd] at l
    obtain ⟨x, hx, px⟩ := List.any_eq_true.mp l
    obtain ⟨hxE, hx2⟩ := dep_ok e hE ds hd x hx
    have hxf := of_decide_eq_true px
    refine List.any_eq_true.mpr ⟨x, hx, decide_eq_true (List.mem_filter.mpr ⟨hxE, ?_⟩)⟩
    unfold lvf
    rw [(List.mem_filter.mp hxf).2, Bool.true_and]
    unfold liv
    rcases hx2 with h0 | ⟨d2, h1, h2⟩
    · rw [h0]
    · rw [h1]
      exact List.any_eq_true.mpr ⟨e, h2, decide_eq_true (List.mem_filter.mpr ⟨hE, hl.1⟩)⟩
theorem live_idem (f : Str → Bool) : m__law_live (part (lvf f)) = part (lvf f) := by
  rw [live_fil]
  exact List.filter_eq_self.mpr fun e he => live_live he
/-- the rule of the live entries -/
theorem rlive_eq (f : Str → Bool) : m_gathered_entries (m_live_among (part f)) = part (lvf f) := by
  rw [live_eq, live_part]
  exact gath_sub _
/-- the join of two live parts -/
def jn (f g : Str → Bool) : Str → Bool := fun e => lvf f e || lvf g e
theorem join_eq (f g : Str → Bool) : m_gathered_entries (part (lvf f) ++ part (lvf g)) = part (jn f g) := by
  rw [gath_of _ fun e he => by
    rcases List.mem_append.mp he with h | h
    · exact (List.mem_filter.mp h).1
    · exact (List.mem_filter.mp h).1]
  refine List.filter_congr fun e he => ?_
  unfold jn
  rw [Bool.eq_iff_iff]
  simp only [decide_eq_true_eq, List.mem_append, List.mem_filter, Bool.or_eq_true]
  exact ⟨fun h => h.elim (fun z => .inl z.2) fun z => .inr z.2, fun h => h.elim (fun z => .inl ⟨he, z⟩) fun z => .inr ⟨he, z⟩⟩
theorem live_join (f g : Str → Bool) : m__law_live (part (jn f g)) = part (jn f g) := by
  rw [live_fil]
  refine List.filter_eq_self.mpr fun e he => ?_
  obtain ⟨hE, hj⟩ := List.mem_filter.mp he
  unfold jn at hj
  rw [Bool.or_eq_true] at hj
  rcases hj with h | h
  · refine liv_mono (fun x hx => ?_) (live_live (List.mem_filter.mpr ⟨hE, h⟩))
    have := List.mem_filter.mp (of_decide_eq_true hx)
    exact decide_eq_true (List.mem_filter.mpr ⟨this.1, by unfold jn; rw [this.2]; rfl⟩)
  · refine liv_mono (fun x hx => ?_) (live_live (List.mem_filter.mpr ⟨hE, h⟩))
    have := List.mem_filter.mp (of_decide_eq_true hx)
    exact decide_eq_true (List.mem_filter.mpr ⟨this.1, by unfold jn; rw [this.2, Bool.or_true]⟩)
/-- the strongest promise by what is live -/
def strL (L : List Str) : Option (Str × Str) := if L.any hF = true then none else some (if (L.any fun e => hK e && !rsv e) = true then ("fresh" : Str) else "kept", if (L.any fun e => hK e && rsv e) = true then ("fresh" : Str) else "kept")
theorem part_ok (f : Str → Bool) : preR (part f) := ⟨Nat.le_trans (List.length_filter_le _ _) (by rw [allE_len]; decide), fun e he => (List.mem_filter.mp he).1⟩
theorem map_inj2 {x y : Option (Str × Str)} (h : x.map (fun p => [p.1, p.2]) = y.map fun p => [p.1, p.2]) : x = y := by
  cases x <;> cases y
  · rfl
  · cases h
  · cases h
  · rename_i a b
    have := Option.some.inj h
    injection this with h1 h2
    injection h2 with h2 h3
    rw [Prod.ext h1 h2]
theorem str_eq {rows : List Str} (hr : preR rows) : m_strongest rows = strL (m__law_live rows) := by
  apply map_inj2
  rw [← strongest_eq hr, best_eq]
  unfold strL
  split <;> rfl
theorem str_live (f : Str → Bool) : m_strongest (part (lvf f)) = m_strongest (part f) := by
  rw [str_eq (part_ok _), str_eq (part_ok _), live_idem, live_part]
theorem any_jn (f g : Str → Bool) (q : Str → Bool) : (part (jn f g)).any q = ((part (lvf f)).any q || (part (lvf g)).any q) := by
  rw [Bool.eq_iff_iff]
  simp only [Bool.or_eq_true, List.any_eq_true, List.mem_filter]
  unfold jn
  constructor
  · rintro ⟨x, ⟨h1, h2⟩, h3⟩
    rw [Bool.or_eq_true] at h2
    rcases h2 with h | h
    · exact .inl ⟨x, ⟨h1, h⟩, h3⟩
    · exact .inr ⟨x, ⟨h1, h⟩, h3⟩
  · rintro (⟨x, ⟨h1, h2⟩, h3⟩ | ⟨x, ⟨h1, h2⟩, h3⟩)
    · exact ⟨x, ⟨h1, by rw [h2]; rfl⟩, h3⟩
    · exact ⟨x, ⟨h1, by rw [h2, Bool.or_true]⟩, h3⟩
theorem str_join (f g : Str → Bool) : m_strongest (part (jn f g)) = (match m_strongest (part f), m_strongest (part g) with
  | some p, some q => some (m_Pand p q)
  | _, _ => none) := by
  rw [str_eq (part_ok _), str_eq (part_ok _), str_eq (part_ok _), live_join, live_part, live_part]
  unfold strL
  rw [any_jn, any_jn, any_jn]
  generalize (part (lvf f)).any hF = a1
  generalize (part (lvf g)).any hF = a2
  generalize ((part (lvf f)).any fun e => hK e && !rsv e) = b1
  generalize ((part (lvf g)).any fun e => hK e && !rsv e) = b2
  generalize ((part (lvf f)).any fun e => hK e && rsv e) = c1
  generalize ((part (lvf g)).any fun e => hK e && rsv e) = c2
  revert a1 a2 b1 b2 c1 c2
  decide +kernel
theorem str_two {rows : List Str} (hr : preR rows) {q : Str × Str} (h : m_strongest rows = some q) : q.1 ∈ two ∧ q.2 ∈ two := by
  rw [str_eq hr] at h
  unfold strL at h
  split at h
  · cases h
  · cases h
    refine ⟨?_, ?_⟩ <;> (dsimp only; split <;> decide +kernel)
theorem sound_str {rows : List Str} (hr : preR rows) {x y : Str} (hx : x ∈ two) (hy : y ∈ two) : m_sound rows (x, y) = (match m_strongest rows with | none => false | some q => m__law_weaker [x, y] [q.1, q.2]) := by
  rw [sound_eq hr hx hy, str_eq hr]
  unfold strL
  generalize (m__law_live rows).any hF = a
  generalize ((m__law_live rows).any fun e => hK e && !rsv e) = b
  generalize ((m__law_live rows).any fun e => hK e && rsv e) = c
  have key : ∀ x ∈ two, ∀ y ∈ two, ∀ a b c : Bool, (!a && ((decide (x = "fresh") || !b) && (decide (y = "fresh") || !c))) = (match (if a = true then none else some (if b = true then ("fresh" : Str) else "kept", if c = true then ("fresh" : Str) else "kept") : Option (Str × Str)) with | none => false | some q => m__law_weaker [x, y] [q.1, q.2]) := by decide +kernel
  exact key x hx y hy a b c
theorem ple_weaker : ∀ x ∈ two, ∀ y ∈ two, ∀ u ∈ two, ∀ v ∈ two, m_Ple (x, y) (u, v) = m__law_weaker [x, y] [u, v] := by decide +kernel
theorem exp_all : m_expand "* * *" = allE := by decide +kernel
theorem out_all (f : Str → Bool) : m_entries_without (part f) (m_expand "* * *") = [] := by
  rw [ew_eq, exp_all]
  exact List.filter_eq_nil_iff.mpr fun e he => by rw [decide_eq_true (List.mem_filter.mp he).1]; simp
theorem sound_nil : m_sound [] ("kept", "kept") = true := by decide +kernel
theorem str_nil : m_strongest [] = some (("kept" : Str), ("kept" : Str)) := by decide +kernel
theorem best_str (f : Str → Bool) : m_best (part f) = (m_strongest (part f)).map fun p => [p.1, p.2] := strongest_eq (part_ok f)
end K79
/-! text D23 -/
set_option maxHeartbeats 1000000
/-! D23: _law_is_told -/
namespace K79
open PySem PySem.Spec PyProof.Rows L2 Sw ItX
section
variable {P : Program} {w : World} {K : PySem.W.Frag} {mg : Str → Option Value} {base : Heap} (T : Tx w K mg)
abbrev s_told : Stmt := top 64
abbrev N_told : List Str := ["entries", "rule", "due", "told", "words", "promise"]
theorem sc_told : FnScope N_told ["entries"] (defScope s_told) := ⟨rfl, rfl, rfl, by decide +kernel, rfl, by decide +kernel, by decide +kernel⟩
abbrev gSB (T : Tx w K mg) := g_same_bl (P := P) (base := base) T
theorem gSL (T : Tx w K mg) : Gn P w K mg base 3 "_law_same" (spSame (tList tStr) fun xs => xs.length ≤ 1000 ∧ ∀ x ∈ xs, True) := g_same_list T (g_same_str T)
theorem cl_sameB {B : Bas} {ρ ρ1 : List SV} {as : TA} (a : Bool) (h : EvA B ρ as [dat tBl a, dat tBl a] ρ1) : EvE B ρ (tCl (spSame tBl fun _ => True) as) (dat tBl true) ρ1 := cl_same a h trivial
theorem cl_sameL {B : Bas} {ρ ρ1 : List SV} {as : TA} (a : List Str) (h : EvA B ρ as [dat (tList tStr) a, dat (tList tStr) a] ρ1) (hz : a.length ≤ 1000) : EvE B ρ (tCl (spSame (tList tStr) fun xs => xs.length ≤ 1000 ∧ ∀ x ∈ xs, True) as) (dat tBl true) ρ1 := cl_same a h ⟨hz, fun _ _ => trivial⟩
theorem ev_isBl {B : Bas} {ρ ρ1 ρ2 : List SV} {ta tb : TE} {a b : Bool} (ha : EvE B ρ ta (dat tBl a) ρ1) (hb : EvE B ρ1 tb (dat tBl b) ρ2) : EvE B ρ (tOp (fun x y H Q => ∃ a b, x = .bl a ∧ y = .bl b ∧ Q (.bl (decide (a = b))) H) ta tb) (dat tBl (decide (a = b))) ρ2 :=
  ev_op2 ha hb (fun _ _ h => h) (fun _ _ h => h) sc_bl fun _ _ q => ⟨a, b, rfl, rfl, q⟩
abbrev sp_told : Sp := spF (A := Str → Bool) (fun _ => True) (fun f => [dat (tList tStr) (part f)]) (fun _ => dat tBl true)
theorem cl_str {B : Bas} {ρ ρ1 : List SV} {as : TA} (a : List Str) (h : EvA B ρ as [dat (tR T) (dR a)] ρ1) (hp : preR a) : EvE B ρ (tCl (sp_strongest T) as) (resS T (m_strongest a)) ρ1 := ev_call (pre := fun a => preR a) (ins := fun a => [dat (tR T) (dR a)]) (res := fun a => resS T (m_strongest a)) a h hp fr_l1
theorem cl_snd {B : Bas} {ρ ρ1 : List SV} {as : TA} (a : List Str) (p : Str × Str) (h : EvA B ρ as [dat (tR T) (dR a), dat (tP T) (dP p)] ρ1) (hp : preR a) : EvE B ρ (tCl (sp_is_sound T) as) (dat tBl (m_sound a p)) ρ1 := ev_call (pre := fun a : List Str × Str × Str => preR a.1) (ins := fun a => [dat (tR T) (dR a.1), dat (tP T) (dP a.2)]) (res := fun a => dat tBl (m_sound a.1 a.2)) (a, p) h hp fr_l2
theorem ev_ple {B : Bas} {ρ ρ1 ρ2 : List SV} {ta tb : TE} (p q : Str × Str) (ha : EvE B ρ ta (dat (tP T) (dP p)) ρ1) (hb : EvE B ρ1 tb (dat (tP T) (dP q)) ρ2) : EvE B ρ (tOp (rOwn2 T.cP (sp_P_le T)) ta tb) (dat tBl (m_Ple p q)) ρ2 :=
  ev_own2 (pre := fun _ => True) (ins := fun a : (Str × Str) × Str × Str => [dat (tP T) (dP a.1), dat (tP T) (dP a.2)]) (res := fun a => dat tBl (m_Ple a.1 a.2)) (p, q) rfl ha hb trivial
theorem ev_liv {B : Bas} {ρ ρ1 : List SV} {te : TE} (f : Str → Bool) (h : EvE B ρ te (dat (tR T) (dR (part f))) ρ1) : EvE B ρ (tProp T.cR (sp_R_live T) [] E0 te) (dat (tR T) (dR (part (lvf f)))) ρ1 := by
  have := (ev_pg (pre := fun a => preR a) (ins := fun a => [dat (tR T) (dR a)]) (res := fun a => fre (oIns T.cR) (dR (m_gathered_entries (m_live_among a)))) (part f) rfl h (part_ok f)).ins
  rw [rlive_eq] at this
  exact this
theorem resN {q : Option (Str × Str)} (h : q = none) : resS T q = dat tNon () := by rw [h]; rfl
theorem resP {q : Option (Str × Str)} {p : Str × Str} (h : q = some p) : resS T q = fre (oIns T.cP) (dP p) := by rw [h]; rfl
/-- what is told of a promise that is known -/
theorem ev_wof {B : Bas} {ρ ρ1 : List SV} {te : TE} (p : Str × Str) (h : EvE B ρ te (dat (tP T) (dP p)) ρ1) : EvE B ρ (tCl (sp__law_words_of T) (tCons te tNil)) (dat (tList tStr) [p.1, p.2]) ρ1 := (cl__law_words_of T p (ea_cons h ea_nil)).lst
theorem swap_ok : ∀ x ∈ two, ∃ y, dGet [(("kept" : Str), ("fresh" : Str)), ("fresh", "kept")] x = some y ∧ okW y := by
  intro x hx
  rcases List.mem_cons.mp hx with rfl | hx
  · exact ⟨"kept", rfl, .inr rfl⟩
  · rw [List.mem_singleton.mp hx]
    exact ⟨"fresh", rfl, .inl rfl⟩
theorem okW2 {x : Str} (h : x ∈ two) : okW x := by
  rcases List.mem_cons.mp h with rfl | h
  · exact .inl rfl
  · exact .inr (List.mem_singleton.mp h)
abbrev words4L : List (List Str) := [[("fresh" : Str), "fresh"], ["fresh", "kept"], ["kept", "fresh"], ["kept", "kept"]]
theorem words4L_ok : ∀ ws ∈ words4L, ∃ x y, ws = [x, y] ∧ x ∈ two ∧ y ∈ two := by
  intro ws h
  rcases List.mem_cons.mp h with rfl | h
  · exact ⟨_, _, rfl, by decide +kernel, by decide +kernel⟩
  rcases List.mem_cons.mp h with rfl | h
  · exact ⟨_, _, rfl, by decide +kernel, by decide +kernel⟩
  rcases List.mem_cons.mp h with rfl | h
  · exact ⟨_, _, rfl, by decide +kernel, by decide +kernel⟩
  rw [List.mem_singleton.mp h]
  exact ⟨_, _, rfl, by decide +kernel, by decide +kernel⟩
theorem ev_w4 {B : Bas} {ρ : List SV} : EvE B ρ (tLst (tCons (tLst (tCons (tC (.str "fresh")) (tCons (tC (.str "fresh")) tNil))) (tCons (tLst (tCons (tC (.str "fresh")) (tCons (tC (.str "kept")) tNil))) (tCons (tLst (tCons (tC (.str "kept")) (tCons (tC (.str "fresh")) tNil))) (tCons (tLst (tCons (tC (.str "kept")) (tCons (tC (.str "kept")) tNil))) tNil))))) (dat (tList (tList tStr)) words4L) ρ := by
  have l2 : ∀ x y : Str, EvE B ρ (tLst (tCons (tC (.str x)) (tCons (tC (.str y)) tNil))) (dat (tList tStr) [x, y]) ρ := fun x y => ev_lst (T := tStr) (xs := [x, y]) (ea_cons ev_str (ea_cons ev_str ea_nil)) (by show 2 ≤ sizeLine; decide)
  exact ev_lst (T := tList tStr) (xs := words4L) (ea_cons (l2 _ _) (ea_cons (l2 _ _) (ea_cons (l2 _ _) (ea_cons (l2 _ _) ea_nil)))) (by show 4 ≤ sizeLine; decide)
theorem cl_strN {B : Bas} {ρ ρ1 : List SV} {as : TA} (a : List Str) (h : EvA B ρ as [dat (tR T) (dR a)] ρ1) (hp : preR a) (hq : m_strongest a = none) : EvE B ρ (tCl (sp_strongest T) as) (dat tNon ()) ρ1 := by
  have := cl_str T a h hp
  rw [resN T hq] at this
  exact this
theorem cl_strP {B : Bas} {ρ ρ1 : List SV} {as : TA} (a : List Str) {q : Str × Str} (h : EvA B ρ as [dat (tR T) (dR a)] ρ1) (hp : preR a) (hq : m_strongest a = some q) : EvE B ρ (tCl (sp_strongest T) as) (fre (oIns T.cP) (dP q)) ρ1 := by
  have := cl_str T a h hp
  rw [resP T hq] at this
  exact this
theorem nil_R : preR [] := ⟨by decide, fun e h => nomatch h⟩
theorem all_X : preX "* * *" := preX_of (by decide +kernel)
theorem g_told (T : Tx w K mg) : Gn P w K mg base 10 "_law_is_told" sp_told := by
  have nd := sc_told.nd
  refine gn_of T.d__law_is_told sc_told (lenF fun _ => rfl) (fun _ _ _ _ _ _ us hl => match us, hl with | [_], _ => rfl) (fun f cdv A outer s H vs Q E hr h => ⟨_, (pss_cons (ps_set (i := 1) nd rfl (by first | exact Or.inl rfl | exact Or.inr rfl) (pe_cl (g__law_rule T) hr (by decide) rfl (pa_cons (pv 0) pa_nil))) (pss_cons (ps_set (i := 2) nd rfl (by first | exact Or.inl rfl | exact Or.inr rfl) (pe_cl (g__law_best T) hr (by decide) rfl (pa_cons (pv 0) pa_nil))) (pss_cons (ps_set (i := 3) nd rfl (by first | exact Or.inl rfl | exact Or.inr rfl) (pe_cl (g_strongest T) hr (by decide) rfl (pa_cons (pv 1) pa_nil))) (pss_cons (ps_if (pt_cmpR op_isN (pv 2) pe_non (nomark _)) (pss_one (ps_if (PW.pt (pw_or (pt_cmpR op_notN (pv 3) pe_non (nomark _)) (pw_or1 (pt_cmpR op_notN (pe_cl (g_strongest T) hr (by decide) rfl (pa_cons (pe_pg (g_R_live T) hr (by decide) (pv 1)) pa_nil)) pe_non (nomark _))))) (pss_one (ps_ret pe_bl)) pss_nil)) (pss_one (ps_if (PW.pt (pw_or (pt_not (pt_val (pe_cl (gSL T) hr (by decide) rfl (pa_cons (pe_cl (g__law_words_of T) hr (by decide) rfl (pa_cons (pv 3) pa_nil)) (pa_cons (pv 2) pa_nil))))) (pw_or1 (pt_not (pt_val (pe_cl (gSL T) hr (by decide) rfl (pa_cons (pe_cl (g__law_words_of T) hr (by decide) rfl (pa_cons (pe_cl (g_strongest T) hr (by decide) rfl (pa_cons (pe_pg (g_R_live T) hr (by decide) (pv 1)) pa_nil)) pa_nil)) (pa_cons (pv 2) pa_nil)))))))) (pss_one (ps_ret pe_bl)) pss_nil))) (pss_cons (ps_for PassesOwn.never rfl (pi_list (pe_lst (pa_cons (pe_lst (pa_cons pe_str (pa_cons pe_str pa_nil))) (pa_cons (pe_lst (pa_cons pe_str (pa_cons pe_str pa_nil))) (pa_cons (pe_lst (pa_cons pe_str (pa_cons pe_str pa_nil))) (pa_cons (pe_lst (pa_cons pe_str (pa_cons pe_str pa_nil))) pa_nil)))))) (pg_name (i := 4) nd rfl (by first | exact Or.inl rfl | exact Or.inr rfl)) (pss_cons (ps_set (i := 5) nd rfl (by first | exact Or.inl rfl | exact Or.inr rfl) (pe_mkR (g_P_init T) hr (by decide) rfl (pa_cons (pe_ix (ix_list_K (K := K) rfl) (pv 4) pe_int (fun _ _ => rfl)) (pa_cons (pe_ix (ix_list_K (K := K) rfl) (pv 4) pe_int (fun _ _ => rfl)) pa_nil)))) (pss_cons (ps_if (pt_not (pt_val (pe_cl (gSB T) hr (by decide) rfl (pa_cons (pe_cl (g_is_sound T) hr (by decide) rfl (pa_cons (pv 1) (pa_cons (pv 5) pa_nil))) (pa_cons (pe_and (pe_cmpR op_notN (pv 2) pe_non (nomark _)) (pe_one (pe_cl (g__law_weaker T) hr (by decide) rfl (pa_cons (pv 4) (pa_cons (pv 2) pa_nil))))) pa_nil))))) (pss_one (ps_ret pe_bl)) pss_nil) (pss_one (ps_if (PW.pt (pw_and (pt_cmpR op_notN (pv 2) pe_non (nomark _)) (pw_and1 (pt_not (pt_val (pe_cl (gSB T) hr (by decide) rfl (pa_cons (pe_cmpR (on_le (g_P_le T) hr (by decide) T.nfP) (pv 5) (pv 3) (nomark _)) (pa_cons (pe_cl (g__law_weaker T) hr (by decide) rfl (pa_cons (pv 4) (pa_cons (pv 2) pa_nil))) pa_nil)))))))) (pss_one (ps_ret pe_bl)) pss_nil))))) (pss_cons (ps_if (pt_cmpR op_notN (pv 2) pe_non (nomark _)) (pss_cons (ps_expr (pe_ml (g_P_change T) hr (by decide) (pv 3) (pa_cons pe_str (pa_cons (pe_dget (hu_of hr) (pe_disp (pps_cons pe_str pe_str (pps_cons pe_str pe_str pps_nil)) rfl rfl (by simp) (by decide)) (pe_ix (ix_list_K (K := K) rfl) (pv 2) pe_int (fun _ _ => rfl)) (fun _ _ => rfl)) pa_nil)))) (pss_cons (ps_expr (pe_ml (g_P_change T) hr (by decide) (pv 3) (pa_cons pe_str (pa_cons pe_str pa_nil)))) (pss_one (ps_if (pt_not (pt_val (pe_cl (gSL T) hr (by decide) rfl (pa_cons (pe_cl (g__law_words_of T) hr (by decide) rfl (pa_cons (pe_cl (g_strongest T) hr (by decide) rfl (pa_cons (pv 1) pa_nil)) pa_nil)) (pa_cons (pv 2) pa_nil))))) (pss_one (ps_ret pe_bl)) pss_nil)))) pss_nil) (pss_cons (ps_if (pt_not (pt_val (pe_cl (gSL T) hr (by decide) rfl (pa_cons (pe_callTy (cr_listO (g_R_il T) hr (by decide) spF_mono) (by rfl) T.n_list (by decide +kernel) (pa_cons (pv 1) pa_nil)) (pa_cons (pv 0) pa_nil))))) (pss_one (ps_ret pe_bl)) pss_nil) (pss_cons (ps_asg pe_bl (pg_sub (pv 1) pe_str (on_set (g_R_set T) T.nsR hr (by decide)))) (pss_one (ps_ret (pe_and (pe_cmpR op_is_bl (pe_cl (g_is_sound T) hr (by decide) rfl (pa_cons (pv 1) (pa_cons (pe_mkR (g_P_init T) hr (by decide) rfl (pa_cons pe_str (pa_cons pe_str pa_nil))) pa_nil))) pe_bl (nomark _)) (pe_one (pe_cl (gSL T) hr (by decide) rfl (pa_cons (pe_cl (g__law_words_of T) hr (by decide) rfl (pa_cons (pe_cl (g_strongest T) hr (by decide) rfl (pa_cons (pv 1) pa_nil)) pa_nil)) (pa_cons (pe_lst (pa_cons pe_str (pa_cons pe_str pa_nil))) pa_nil))))))))))))))), body_F h fun f B hp => ?_⟩)
  have hR := part_ok f
  refine ex_seq (ex_asgO (i := 1) (O := oIns T.cR) (a := dR (part f)) (EvE.is' (cl__law_rule (T := T) (part f) (ea_cons (ev_var rfl) ea_nil) hR) (congrArg dR (rule_eq f))) (by show _ < 6; decide) oat_ins (fun p hp => ?_))
  refine ex_seq (ex_asg (i := 2) (R := dat (tOpt (tList tStr)) ((m_strongest (part f)).map fun p => [p.1, p.2])) ((ev_call (pre := fun a => preR a) (ins := fun a => [dat (tList tStr) a]) (res := fun a => dat (tOpt (tList tStr)) (m_best a)) (part f) (ea_cons (ev_var rfl) ea_nil) hR fr_l1).is (best_str f)) (by show _ < 6; decide) ?_)
  cases hq : m_strongest (part f) with
  | none =>
    refine ex_seq (ex_asg (i := 3) (R := dat tNon ()) (ev_lend (bs := [false, true, false, false, false, false]) (.still frz_dat (.lend brw_ins (.still frz_dat (.still frz_any (.still frz_any (.still frz_any .nil)))))) (fr_cons fr_dat (fr_cons fr_own (fr_cons fr_dat (fr_cons fr_any (fr_cons fr_any (fr_cons fr_any fr_nil)))))) era_non fun B1 => (cl_strN T (part f) (ea_cons (ev_varI rfl) ea_nil) hR hq)) (by show _ < 6; decide) ?_)
    refine ex_seq (ex_if (et_test (ev_isN (T := tList tStr) (x := none) (ev_var rfl))) (fun _ => ex_if (et_lend (bs := [false, true, false, false, false, false]) (.still frz_dat (.lend brw_ins (.still frz_dat (.still frz_dat (.still frz_any (.still frz_any .nil)))))) (fr_cons fr_dat (fr_cons fr_own (fr_cons fr_dat (fr_cons fr_dat (fr_cons fr_any (fr_cons fr_any fr_nil)))))) fun B1 => (et_or (et_test (ev_notN (T := tP T) (x := none) (EvE.noneO (ev_var rfl)))) (fun _ => et_test (ev_notN (T := tP T) (x := none) (EvE.noneO (cl_strN T (part (lvf f)) (ea_cons (ev_liv T f (ev_varI rfl)) ea_nil) (part_ok _) (by rw [str_live]; exact hq))))))) (fun h => nomatch h) (fun _ => ex_next ?_)) (fun h => nomatch h))
    refine ex_seq (ex_forLF (S := Unit) (T := tList tStr) (xs := words4L) (fun _ => [dat (tList tStr) (part f), own (.ref p) (oIns T.cR) (dR (part f)), (dat (tOpt (tList tStr)) none), (dat tNon ()), any, any]) (fun s _ => s) () (EvE.row (K := K) ev_w4) (.keep (.keep (.keep (.keep (.forget (.forget EntL.nil)))))) (fun _ => by show 4 < 6; decide) (fun pre post ws hws => ?_) ?_)
    · obtain ⟨x, y, rfl, hx, hy⟩ := words4L_ok ws (by rw [hws]; simp)
      refine ex_seq (ex_asg (i := 5) (R := dat (tP T) (dP (x, y))) ((fr_make (x, y) (ea_cons (ev_ixL (a := x) (EvE.row (K := K) (ev_var rfl)) ev_int rfl) (ea_cons (ev_ixL (a := y) (EvE.row (K := K) (ev_var rfl)) ev_int rfl) ea_nil)) ⟨okW2 hx, okW2 hy⟩ fr_l2).ins) (by show _ < 6; decide) ?_)
      refine ex_seq (ex_if (et_lend (bs := [false, true, false, false, false, false]) (.still frz_dat (.lend brw_ins (.still frz_dat (.still frz_dat (.still frz_dat (.still frz_dat .nil)))))) (fr_cons fr_dat (fr_cons fr_own (fr_cons fr_dat (fr_cons fr_dat (fr_cons fr_dat (fr_cons fr_dat fr_nil)))))) fun B1 => (et_not (et_B (cl_sameB false (ea_cons (EvE.isB (b := false) (cl_snd T (part f) (x, y) (ea_cons (ev_varI rfl) (ea_cons (ev_var rfl) ea_nil)) hR) (by rw [sound_str hR hx hy, hq])) (ea_cons (EvE.isB (b := false) (ev_and (j := false) (ev_notN (T := tList tStr) (x := none) (ev_var rfl)) (fun h => nomatch h)) rfl) ea_nil)))))) (fun h => nomatch h) (fun _ => ex_next ?_))
      refine ex_if (et_lend (bs := [false, true, false, false, false, false]) (.still frz_dat (.lend brw_ins (.still frz_dat (.still frz_dat (.still frz_dat (.still frz_dat .nil)))))) (fr_cons fr_dat (fr_cons fr_own (fr_cons fr_dat (fr_cons fr_dat (fr_cons fr_dat (fr_cons fr_dat fr_nil)))))) fun B1 => (et_and (j := false) (et_test (ev_notN (T := tList tStr) (x := none) (ev_var rfl))) (fun h => nomatch h))) (fun h => by simp at h) (fun _ => ex_next ?_)
      exact .keep (.keep (.keep (.keep (.forget (.forget EntL.nil)))))
    refine ex_seq (ex_if (et_test (ev_notN (T := tList tStr) (x := none) (ev_var rfl))) (fun h => nomatch h) (fun _ => ex_next ?_))
    refine ex_seq (ex_if (et_lend (bs := [false, true, false, false, false, false]) (.still frz_dat (.lend brw_ins (.still frz_dat (.still frz_dat (.still frz_any (.still frz_any .nil)))))) (fr_cons fr_dat (fr_cons fr_own (fr_cons fr_dat (fr_cons fr_dat (fr_cons fr_any (fr_cons fr_any fr_nil)))))) fun B1 => (et_not (et_B (cl_sameL (part f) (ea_cons (ev_listR T (by have := hR.1; omega) (ea_cons (ev_varI rfl) ea_nil)).lst (ea_cons (ev_var rfl) ea_nil)) (by have := hR.1; omega))))) (fun h => nomatch h) (fun _ => ex_next ?_))
    refine ex_seq (ex_setI (i := 1) (pre := fun a : List Str × Str => preR a.1 ∧ preX a.2) (s0 := fun a => dR a.1) (ins := fun a => [dat tStr a.2, dat tBl false]) (s1 := fun a => dR (m_entries_without a.1 (m_expand a.2))) (res := fun _ => dat tNon ()) (T := tBl) (U := tStr) (a := false) (b := ("* * *" : Str)) (part f, ("* * *" : Str)) rfl ev_bl ev_str rfl rfl ⟨hR, all_X⟩ ?_)
    refine ex_hide (i := 1) (s' := own (.ref p) (oIns T.cR) (dR [])) rfl (fun F H v fp _ h => by rw [← out_all f]; exact h) ?_
    refine ex_ret (ev_lend (bs := [false, true, false, false, false, false]) (.still frz_dat (.lend brw_ins (.still frz_dat (.still frz_dat (.still frz_any (.still frz_any .nil)))))) (fr_cons fr_dat (fr_cons fr_own (fr_cons fr_dat (fr_cons fr_dat (fr_cons fr_any (fr_cons fr_any fr_nil)))))) era_bl fun B1 => (EvE.isB (b := true) (ev_and (EvE.isB (b := true) (ev_isBl (cl_snd T [] (("kept" : Str), ("kept" : Str)) (ea_cons (ev_varI rfl) (ea_cons (fr_make (("kept" : Str), ("kept" : Str)) (ea_cons ev_str (ea_cons ev_str ea_nil)) ⟨.inr rfl, .inr rfl⟩ fr_l2).ins ea_nil)) nil_R) ev_bl) (by rw [sound_nil]; rfl)) (fun _ => cl_sameL [("kept" : Str), "kept"] (ea_cons (ev_wof T (("kept" : Str), ("kept" : Str)) (cl_strP T [] (ea_cons (ev_varI rfl) ea_nil) nil_R str_nil).ins) (ea_cons (ev_lst (T := tStr) (xs := [("kept" : Str), "kept"]) (ea_cons ev_str (ea_cons ev_str ea_nil)) (by show 2 ≤ sizeLine; decide)) ea_nil)) (by show 2 ≤ 1000; decide))) rfl)) ?_
    rfl
  | some q =>
    obtain ⟨hq1, hq2⟩ := str_two hR hq
    refine ex_seq (ex_asgO (i := 3) (O := oIns T.cP) (a := dP q) (ev_lend (bs := [false, true, false, false, false, false]) (.still frz_dat (.lend brw_ins (.still frz_dat (.still frz_any (.still frz_any (.still frz_any .nil)))))) (fr_cons fr_dat (fr_cons fr_own (fr_cons fr_dat (fr_cons fr_any (fr_cons fr_any (fr_cons fr_any fr_nil)))))) (era_freI (flatP _)) fun B1 => (cl_strP T (part f) (ea_cons (ev_varI rfl) ea_nil) hR hq)) (by show _ < 6; decide) oat_ins (fun pt hpt => ?_))
    refine ex_seq (ex_if (et_test (ev_isN (T := tList tStr) (x := some [q.1, q.2]) (ev_var rfl))) (fun h => nomatch h) (fun _ => ex_if (et_lend (bs := [false, true, false, true, false, false]) (.still frz_dat (.lend brw_ins (.still frz_dat (.lend brw_ins (.still frz_any (.still frz_any .nil)))))) (fr_cons fr_dat (fr_cons fr_own (fr_cons fr_dat (fr_cons fr_own (fr_cons fr_any (fr_cons fr_any fr_nil)))))) fun B1 => (et_or (et_not (et_B (cl_sameL [q.1, q.2] (ea_cons (ev_wof T q (ev_varI rfl)) (ea_cons (EvE.getO (ev_var rfl) rfl) ea_nil)) (by show 2 ≤ 1000; decide)))) (fun _ => et_not (et_B (cl_sameL [q.1, q.2] (ea_cons (ev_wof T q (cl_strP T (part (lvf f)) (ea_cons (ev_liv T f (ev_varI rfl)) ea_nil) (part_ok _) (by rw [str_live]; exact hq)).ins) (ea_cons (EvE.getO (ev_var rfl) rfl) ea_nil)) (by show 2 ≤ 1000; decide)))))) (fun h => nomatch h) (fun _ => ex_next ?_)))
    refine ex_seq (ex_forLF (S := Unit) (T := tList tStr) (xs := words4L) (fun _ => [dat (tList tStr) (part f), own (.ref p) (oIns T.cR) (dR (part f)), (dat (tOpt (tList tStr)) (some [q.1, q.2])), (own (.ref pt) (oIns T.cP) (dP q)), any, any]) (fun s _ => s) () (EvE.row (K := K) ev_w4) (.keep (.keep (.keep (.keep (.forget (.forget EntL.nil)))))) (fun _ => by show 4 < 6; decide) (fun pre post ws hws => ?_) ?_)
    · obtain ⟨x, y, rfl, hx, hy⟩ := words4L_ok ws (by rw [hws]; simp)
      refine ex_seq (ex_asg (i := 5) (R := dat (tP T) (dP (x, y))) ((fr_make (x, y) (ea_cons (ev_ixL (a := x) (EvE.row (K := K) (ev_var rfl)) ev_int rfl) (ea_cons (ev_ixL (a := y) (EvE.row (K := K) (ev_var rfl)) ev_int rfl) ea_nil)) ⟨okW2 hx, okW2 hy⟩ fr_l2).ins) (by show _ < 6; decide) ?_)
      refine ex_seq (ex_if (et_lend (bs := [false, true, false, true, false, false]) (.still frz_dat (.lend brw_ins (.still frz_dat (.lend brw_ins (.still frz_dat (.still frz_dat .nil)))))) (fr_cons fr_dat (fr_cons fr_own (fr_cons fr_dat (fr_cons fr_own (fr_cons fr_dat (fr_cons fr_dat fr_nil)))))) fun B1 => (et_not (et_B (cl_sameB (m__law_weaker [x, y] [q.1, q.2]) (ea_cons (EvE.isB (cl_snd T (part f) (x, y) (ea_cons (ev_varI rfl) (ea_cons (ev_var rfl) ea_nil)) hR) (by rw [sound_str hR hx hy, hq])) (ea_cons (EvE.isB (ev_and (ev_notN (T := tList tStr) (x := some [q.1, q.2]) (ev_var rfl)) (fun _ => (cl__law_weaker (T := T) ([x, y], [q.1, q.2]) (ea_cons (ev_var rfl) (ea_cons (EvE.getO (ev_var rfl) rfl) ea_nil)) ⟨rfl, rfl⟩))) (Bool.true_and _)) ea_nil)))))) (fun h => nomatch h) (fun _ => ex_next ?_))
      refine ex_if (et_lend (bs := [false, true, false, true, false, false]) (.still frz_dat (.lend brw_ins (.still frz_dat (.lend brw_ins (.still frz_dat (.still frz_dat .nil)))))) (fr_cons fr_dat (fr_cons fr_own (fr_cons fr_dat (fr_cons fr_own (fr_cons fr_dat (fr_cons fr_dat fr_nil)))))) fun B1 => (et_and (et_test (ev_notN (T := tList tStr) (x := some [q.1, q.2]) (ev_var rfl))) (fun _ => et_not (et_B (cl_sameB (m__law_weaker [x, y] [q.1, q.2]) (ea_cons (EvE.isB (ev_ple T (x, y) q (ev_var rfl) (ev_varI rfl)) (ple_weaker x hx y hy q.1 hq1 q.2 hq2)) (ea_cons (cl__law_weaker (T := T) ([x, y], [q.1, q.2]) (ea_cons (ev_var rfl) (ea_cons (EvE.getO (ev_var rfl) rfl) ea_nil)) ⟨rfl, rfl⟩) ea_nil))))))) (fun h => by simp at h) (fun _ => ex_next ?_)
      exact .keep (.keep (.keep (.keep (.forget (.forget EntL.nil)))))
    obtain ⟨y, hy1, hy2⟩ := swap_ok q.1 hq1
    refine ex_seq (ex_if (et_test (ev_notN (T := tList tStr) (x := some [q.1, q.2]) (ev_var rfl))) (fun _ => ?_) (fun h => nomatch h))
    refine ex_seq (ex_drop (ev_mlO (i := 3) (pre := fun a : (Str × Str) × Str × Str => okW a.2.2 ∧ (a.2.1 = "look" ∨ a.2.1 = "reserved")) (s0 := fun a => dP a.1) (s1 := fun a => dP (m_change a.1 a.2.1 a.2.2)) (ins := fun a => [dat tStr a.2.1, dat tStr a.2.2]) (res := fun _ => dat tNon ()) (q, "look", y) rfl rfl (ea_cons ev_str (ea_cons (ev_dget (fr_disp2 (by decide +kernel)).dic (ev_ixL (a := q.1) (EvE.row (K := K) (EvE.getO (ev_var rfl) rfl)) ev_int rfl) hy1) ea_nil)) rfl ⟨hy2, .inl rfl⟩ fr_l2) ?_)
    refine ex_seq (ex_drop (ev_mlO (i := 3) (pre := fun a : (Str × Str) × Str × Str => okW a.2.2 ∧ (a.2.1 = "look" ∨ a.2.1 = "reserved")) (s0 := fun a => dP a.1) (s1 := fun a => dP (m_change a.1 a.2.1 a.2.2)) (ins := fun a => [dat tStr a.2.1, dat tStr a.2.2]) (res := fun _ => dat tNon ()) (m_change q "look" y, "reserved", "fresh") rfl rfl (ea_cons ev_str (ea_cons ev_str ea_nil)) rfl ⟨.inl rfl, .inr rfl⟩ fr_l2) ?_)
    refine ex_if (et_lend (bs := [false, true, false, false, false, false]) (.still frz_dat (.lend brw_ins (.still frz_dat (.keep (era_ownI (flatP _)) (.still frz_any (.still frz_any .nil)))))) (fr_cons fr_dat (fr_cons fr_own (fr_cons fr_dat (fr_cons fr_own (fr_cons fr_any (fr_cons fr_any fr_nil)))))) fun B1 => (et_not (et_B (cl_sameL [q.1, q.2] (ea_cons (ev_wof T q (cl_strP T (part f) (ea_cons (ev_varI rfl) ea_nil) hR hq).ins) (ea_cons (EvE.getO (ev_var rfl) rfl) ea_nil)) (by show 2 ≤ 1000; decide))))) (fun h => nomatch h) (fun _ => ex_next ?_)
    refine ex_seq (ex_if (et_lend (bs := [false, true, false, false, false, false]) (.still frz_dat (.lend brw_ins (.still frz_dat (.keep (era_ownI (flatP _)) (.still frz_any (.still frz_any .nil)))))) (fr_cons fr_dat (fr_cons fr_own (fr_cons fr_dat (fr_cons fr_own (fr_cons fr_any (fr_cons fr_any fr_nil)))))) fun B1 => (et_not (et_B (cl_sameL (part f) (ea_cons (ev_listR T (by have := hR.1; omega) (ea_cons (ev_varI rfl) ea_nil)).lst (ea_cons (ev_var rfl) ea_nil)) (by have := hR.1; omega))))) (fun h => nomatch h) (fun _ => ex_next ?_))
    refine ex_seq (ex_setI (i := 1) (pre := fun a : List Str × Str => preR a.1 ∧ preX a.2) (s0 := fun a => dR a.1) (ins := fun a => [dat tStr a.2, dat tBl false]) (s1 := fun a => dR (m_entries_without a.1 (m_expand a.2))) (res := fun _ => dat tNon ()) (T := tBl) (U := tStr) (a := false) (b := ("* * *" : Str)) (part f, ("* * *" : Str)) rfl ev_bl ev_str rfl rfl ⟨hR, all_X⟩ ?_)
    refine ex_hide (i := 1) (s' := own (.ref p) (oIns T.cR) (dR [])) rfl (fun F H v fp _ h => by rw [← out_all f]; exact h) ?_
    refine ex_ret (ev_lend (bs := [false, true, false, false, false, false]) (.still frz_dat (.lend brw_ins (.still frz_dat (.keep (era_ownI (flatP _)) (.still frz_any (.still frz_any .nil)))))) (fr_cons fr_dat (fr_cons fr_own (fr_cons fr_dat (fr_cons fr_own (fr_cons fr_any (fr_cons fr_any fr_nil)))))) era_bl fun B1 => (EvE.isB (b := true) (ev_and (EvE.isB (b := true) (ev_isBl (cl_snd T [] (("kept" : Str), ("kept" : Str)) (ea_cons (ev_varI rfl) (ea_cons (fr_make (("kept" : Str), ("kept" : Str)) (ea_cons ev_str (ea_cons ev_str ea_nil)) ⟨.inr rfl, .inr rfl⟩ fr_l2).ins ea_nil)) nil_R) ev_bl) (by rw [sound_nil]; rfl)) (fun _ => cl_sameL [("kept" : Str), "kept"] (ea_cons (ev_wof T (("kept" : Str), ("kept" : Str)) (cl_strP T [] (ea_cons (ev_varI rfl) ea_nil) nil_R str_nil).ins) (ea_cons (ev_lst (T := tStr) (xs := [("kept" : Str), "kept"]) (ea_cons ev_str (ea_cons ev_str ea_nil)) (by show 2 ≤ sizeLine; decide)) ea_nil)) (by show 2 ≤ 1000; decide))) rfl)) ?_
    rfl
end
end K79
/-! text Sw24 -/
set_option maxHeartbeats 1000000
/-! Sw24: a list of two owned instances. -/
namespace Sw
open PySem PySem.Spec PyProof.Rows L2
abbrev Ds := List (Str × Dt)
def oPair (C : Addr) : OTy (Ds × Ds) := ⟨fun F H x fp a => ∃ l p q, x = .ref l ∧ fp.Perm [l, p, q] ∧ H l = some (.lst [.ref p, .ref q]) ∧ (oIns C).rep F H (.ref p) [p] a.1 ∧ (oIns C).rep F H (.ref q) [q] a.2,
  fun ⟨l, p, q, h1, h2, h3, h4, h5⟩ m n => ⟨l, p, q, h1, h2, by rw [n l (h2.mem_iff.mpr (by simp))]; exact h3, OTy.stab _ h4 m (fun y hy => n y (h2.mem_iff.mpr (by rw [List.mem_singleton.mp hy]; simp))), OTy.stab _ h5 m (fun y hy => n y (h2.mem_iff.mpr (by rw [List.mem_singleton.mp hy]; simp)))⟩⟩
section
variable {B : Bas} {H H' : Hp} {σ : L2.St} {ρ ρ1 ρ2 : List SV} {τ L : List En} {ta tb te : TE} {C : Addr} {d1 d2 : Ds} {i : Nat} {N : Kn} {K : PySem.W.Frag} {e e1 e2 : En} {x : V}
theorem fsR_lk {F : Hp} {m : Str} {fs : List (Str × V)} {ds : Ds} (h : ds.lookup m = none) (r : FsR F fs ds) : fs.lookup m = none := by
  induction r with
  | nil => rfl
  | cons r _ ih =>
    rename_i a b as bs _
    obtain ⟨n1, w1⟩ := a
    obtain ⟨n2, w2⟩ := b
    have r1 : n1 = n2 := r.1
    subst r1
    rw [List.lookup_cons] at h ⊢
    cases hh : m == n1 with
    | true => rw [hh] at h; cases h
    | false => rw [hh] at h; exact ih h
theorem Core.resplit (c : Core B H (e :: L)) (ok : ∀ F fp, Same F H → e.2.ok B.io F H e.1 fp → ∃ f1 f2, fp.Perm (f1 ++ f2) ∧ e1.2.ok B.io F H e1.1 f1 ∧ e2.2.ok B.io F H e2.1 f2) : Core B H (e1 :: e2 :: L) := by
  obtain ⟨F, fs, c⟩ := c
  cases fs with
  | nil => exact c.sl.elim
  | cons fp fs =>
    obtain ⟨f1, f2, hp, k1, k2⟩ := ok F fp c.fh c.sl.1
    have hperm : ((fp :: fs).flatten).Perm ((f1 :: f2 :: fs).flatten) := by
      rw [List.flatten_cons, List.flatten_cons, List.flatten_cons, ← List.append_assoc]
      exact hp.append_right _
    exact ⟨F, f1 :: f2 :: fs, c.fr, c.fh, c.kp, c.lv, c.nc, c.il, ⟨k1, k2, c.sl.2⟩, hperm.nodup_iff.mp c.nd, fun p hq => c.ow p (hperm.mem_iff.mpr hq)⟩
theorem Core.rejoin (c : Core B H (e1 :: e2 :: L)) (ok : ∀ F f1 f2, Same F H → e1.2.ok B.io F H e1.1 f1 → e2.2.ok B.io F H e2.1 f2 → e.2.ok B.io F H e.1 (f1 ++ f2)) : Core B H (e :: L) := by
  obtain ⟨F, fs, c⟩ := c
  match fs, c with
  | [], c => exact c.sl.elim
  | [_], c => exact c.sl.2.elim
  | f1 :: f2 :: fs, c =>
    have hfl : (f1 :: f2 :: fs).flatten = ((f1 ++ f2) :: fs).flatten := by rw [List.flatten_cons, List.flatten_cons, List.flatten_cons, List.append_assoc]
    have nd := c.nd
    rw [hfl] at nd
    exact ⟨F, (f1 ++ f2) :: fs, c.fr, c.fh, c.kp, c.lv, c.nc, c.il, ⟨ok F f1 f2 c.fh c.sl.1 c.sl.2.1, c.sl.2.2⟩, nd, fun p hq => c.ow p (by rw [hfl]; exact hq)⟩
/-- the two, newly made, in a list -/
def lone (l : Addr) (vs : List V) : SV where
  ok io F H v fp := v = some (.ref l) ∧ fp = [l] ∧ H l = some (.lst vs) ∧ l ∉ io
  stab := fun ⟨h1, h2, h3, h4⟩ m n => ⟨h1, h2, by rw [n l (by rw [h2]; exact List.mem_cons_self)]; exact h3, h4⟩
  ioch := fun ⟨h1, h2, h3, h4⟩ m => ⟨h1, h2, h3, m _ (by rw [h2]; exact List.mem_cons_self) h4⟩
theorem fr_pair (ha : EvE B ρ ta (fre (oIns C) d1) ρ1) (hb : EvE B ρ1 tb (fre (oIns C) d2) ρ2) : EvE B ρ (tLst (tCons ta (tCons tb tNil))) (fre (oPair C) (d1, d2)) ρ2 := fun H σ τ Q st q =>
  ha H σ τ _ st fun v1 H1 st1 => hb H1 σ _ _ st1 fun v2 H2 st2 => by
    refine ⟨by show 2 ≤ sizeLine; decide, fun l hl => q _ _ ⟨st2.len, ?_⟩⟩
    have c : Core B H2 ((some v2, fre (oIns C) d2) :: (some v1, fre (oIns C) d1) :: (τ ++ σ.zip ρ2)) := st2.core
    obtain ⟨p1, p2, e1, e2⟩ : ∃ p1 p2, v1 = .ref p1 ∧ v2 = .ref p2 := by
      obtain ⟨F, fs, cc⟩ := id c
      match fs, cc with
      | [], cc => exact cc.sl.elim
      | [_], cc => exact cc.sl.2.elim
      | f1 :: f2 :: fs, cc =>
        obtain ⟨x2, h1, ⟨p2, _, _, h2, _⟩, _⟩ := cc.sl.1
        obtain ⟨x1, h3, ⟨p1, _, _, h4, _⟩, _⟩ := cc.sl.2.1
        cases h1; cases h3
        exact ⟨p1, p2, h4, h2⟩
    subst e1 e2
    have c2 := c.allocO (o := .lst [.ref p1, .ref p2]) (s := lone l [.ref p1, .ref p2]) hl fun F _ hio => ⟨rfl, rfl, upd_same, hio⟩
    -- the second one with the list, then the first one
    have c3 : Core B (upd H2 l (.lst [.ref p1, .ref p2])) ((some (.ref l), (⟨fun io F H v fp => v = some (.ref l) ∧ ∃ f, fp = [l] ++ f ∧ H l = some (.lst [.ref p1, .ref p2]) ∧ (oIns C).rep F H (.ref p2) f d2 ∧ ∀ y ∈ fp, y ∉ io,
        fun ⟨h1, f, h2, h3, h4, h5⟩ m n => ⟨h1, f, h2, by rw [n l (by rw [h2]; simp)]; exact h3, OTy.stab _ h4 m (fun y hy => n y (by rw [h2]; simp [hy])), h5⟩,
        fun ⟨h1, f, h2, h3, h4, h5⟩ m => ⟨h1, f, h2, h3, h4, fun y hy => m y hy (h5 y hy)⟩⟩ : SV)) :: (some (.ref p1), fre (oIns C) d1) :: (τ ++ σ.zip ρ2)) := c2.rejoin fun F f1 f2 _ ⟨h1, h2, h3, h4⟩ ⟨x, k1, k2, k3⟩ => by
      cases k1
      refine ⟨rfl, f2, by rw [h2], h3, k2, fun y hy => ?_⟩
      rcases List.mem_append.mp hy with z | z
      · rw [h2] at z; rw [List.mem_singleton.mp z]; exact h4
      · exact k3 y z
    refine c3.rejoin fun F f1 f2 _ ⟨h1, f, h2, h3, h4, h5⟩ ⟨x, k1, k2, k3⟩ => ?_
    cases k1
    obtain ⟨p2', dx2, fs2, g1, g2, g3⟩ := id h4
    obtain ⟨p1', dx1, fs1, g4, g5, g6⟩ := id k2
    cases g1; cases g4
    subst h2 g2 g5
    refine ⟨.ref l, rfl, ⟨l, p1, p2, rfl, ?_, h3, k2, h4⟩, fun y hy => ?_⟩
    · show ([l, p2, p1] : List Addr).Perm [l, p1, p2]
      exact (List.Perm.swap _ _ _).cons _
    · rcases List.mem_append.mp hy with z | z
      · exact h5 y z
      · exact k3 y z
theorem brw_pair : Brw (own x (oPair C) (d1, d2)) (idt x (tList (tIns C)) [d1, d2]) where
  lend := fun ⟨h1, l, p, q, h2, h3, h4, h5, h6⟩ m m2 h => by
    obtain ⟨p', dx1, fs1, g1, _, g2, g3⟩ := h5
    obtain ⟨q', dx2, fs2, k1, _, k2, k3⟩ := h6
    cases g1; cases k1
    have at_ : ∀ y ∈ [l, p, q], ∀ o, _ = some o → _ = some o := fun y hy o ho => h y (h3.mem_iff.mpr hy) o ho
    exact ⟨rfl, h1, l, _, h2, at_ l (by simp) _ h4, .cons ⟨p, dx1, fs1, rfl, at_ p (by simp) _ g2, fsR_mono m g3⟩ (.cons ⟨q, dx2, fs2, rfl, at_ q (by simp) _ k2, fsR_mono m k3⟩ .nil)⟩
  zo := fun ⟨h1, l, p, q, h2, h3, h4, h5, h6⟩ y hy => by
    obtain ⟨p', dx1, fs1, g1, _, g2, g3⟩ := h5
    obtain ⟨q', dx2, fs2, k1, _, k2, k3⟩ := h6
    cases g1; cases k1
    have hy' := h3.mem_iff.mp hy
    rcases List.mem_cons.mp hy' with rfl | hy'
    · exact ⟨_, h4, .inr ⟨_, _, rfl⟩⟩
    rcases List.mem_cons.mp hy' with rfl | hy'
    · exact ⟨_, g2, .inl ⟨_, _, _, rfl⟩⟩
    rw [List.mem_singleton.mp hy']
    exact ⟨_, k2, .inl ⟨_, _, _, rfl⟩⟩
  val := fun ⟨h1, h2⟩ ⟨_, h3, _⟩ m n => ⟨h3, OTy.stab _ h2 m n⟩
/-- the list and its second one -/
def hole0 (C l p q : Addr) (d : Ds) : SV where
  ok _ F H v fp := v = some (.ref l) ∧ fp.Perm [l, q] ∧ H l = some (.lst [.ref p, .ref q]) ∧ (oIns C).rep F H (.ref q) [q] d
  stab := fun ⟨h1, h2, h3, h4⟩ m n => ⟨h1, h2, by rw [n l (h2.mem_iff.mpr (by simp))]; exact h3, OTy.stab _ h4 m (fun y hy => n y (h2.mem_iff.mpr (by rw [List.mem_singleton.mp hy]; simp)))⟩
  ioch := fun h _ => h
/-- o[0].m(a, b), o a list of two owned instances, a and b written texts -/
theorem ev_mlP0 {m : Str} {A : Type} {pre : A → Prop} {s0 s1 : A → Ds} {ins : A → List SV} {res : A → SV} {u v : Str} (k : A) (h0 : ρ[i]? = some (own x (oPair C) (d1, d2))) (hs : s0 k = d1) (hm : d1.lookup m = none) (hi : ins k = [dat tStr u, dat tStr v]) (hp : pre k) :
    EvE B ρ (tMt C m (spM pre (oIns C) s0 ins s1 res) (tOp (rIxL K) (tVar i) (tC (.int 0))) (tCons (tC (.str u)) (tCons (tC (.str v)) tNil))) (res k) (ρ.set i (own x (oPair C) (s1 k, d2))) := fun H σ τ Q st qq => by
  obtain ⟨v', e, lz, p1, p2, _⟩ := zip_perm st.len h0
  have c := st.core.perm (perm_top τ p1)
  obtain ⟨l, p, q, hx, hl, hv, dx, fs, hins, hfs⟩ : ∃ l p q, x = .ref l ∧ H l = some (.lst [.ref p, .ref q]) ∧ v' = some x ∧ ∃ dx fs, H p = some (.ins C dx fs) ∧ ∃ F, FsR F fs d1 := by
    obtain ⟨F, gs, cc⟩ := id c
    cases gs with
    | nil => exact cc.sl.elim
    | cons fp gs =>
      obtain ⟨g1, l, p, q, g2, g3, g4, g5, g6⟩ := cc.sl.1
      obtain ⟨y, dx, fs, k1, _, k2, k3⟩ := g5
      cases k1
      exact ⟨l, p, q, g2, g4, g1, dx, fs, k2, F, k3⟩
  subst hx hv
  have nl : fs.lookup m = none := by
    obtain ⟨F, hfs⟩ := hfs
    exact fsR_lk hm hfs
  have c2 : Core B H ((some (.ref p), own (.ref p) (oIns C) d1) :: (some (.ref l), hole0 C l p q d2) :: (τ ++ lz)) := c.resplit fun F fp _ ⟨g1, l', p', q', g2, g3, g4, g5, g6⟩ => by
    cases g2
    rw [hl] at g4
    cases g4
    exact ⟨[p], [l, q], g3.trans (List.Perm.swap _ _ _), ⟨rfl, g5⟩, ⟨rfl, .refl _, hl, g6⟩⟩
  refine ⟨.ref l, e, l, [.ref p, .ref q], 0, .ref p, rfl, rfl, .inl (.inl hl), rfl, p, dx, fs, rfl, hins, nl, ?_⟩
  have c3 : Core B H ([(some (.ref p), own (.ref p) (oIns C) (s0 k)), (some (.str u), dat tStr u), (some (.str v), dat tStr v)] ++ ((some (.ref l), hole0 C l p q d2) :: (τ ++ lz))) := by
    rw [hs]
    have c4 := (c2.sc (T := tStr) (a := v) (x := .str v) sc_str).sc (T := tStr) (a := u) (x := .str u) sc_str
    refine c4.perm ?_
    exact ((List.Perm.swap _ _ _).cons _).trans (List.Perm.swap _ _ _)
  obtain ⟨F, fi, pr, kk⟩ := c3.frame (fun y hy => by
    rcases List.mem_cons.mp hy with rfl | hy
    · exact fr_own
    rcases List.mem_cons.mp hy with rfl | hy
    · exact fr_dat
    rw [List.mem_singleton.mp hy]
    exact fr_dat)
  refine ⟨k, F, fi, .ref p, [.str u, .str v], hp, rfl, by rw [hi]; rfl, by rw [hi]; exact pr, fun w H' d => qq w H' ⟨by rw [List.length_set]; exact st.len, ?_⟩⟩
  have c5 : Core B H' ((some w, res k) :: (some (.ref p), own (.ref p) (oIns C) (s1 k)) :: (some (.ref l), hole0 C l p q d2) :: (τ ++ lz)) := kk H' _ d
  have c6 : Core B H' ((some (.ref l), own (.ref l) (oPair C) (s1 k, d2)) :: (some w, res k) :: (τ ++ lz)) := by
    have c7 : Core B H' ((some (.ref p), own (.ref p) (oIns C) (s1 k)) :: (some (.ref l), hole0 C l p q d2) :: (some w, res k) :: (τ ++ lz)) := c5.perm ((List.Perm.swap _ _ _).trans ((List.Perm.swap _ _ _).cons _))
    refine c7.rejoin fun F f1 f2 _ ⟨g1, g2⟩ ⟨g3, g4, g5, g6⟩ => ?_
    obtain ⟨y, dx', fs', k1, k2, k3⟩ := id g2
    cases k1
    subst k2
    exact ⟨rfl, l, p, q, rfl, (by exact (g4.cons p).trans (List.Perm.swap _ _ _)), g5, g2, g6⟩
  refine c6.perm ?_
  have h1 := perm_top ((some w, res k) :: τ) (p2 (own (.ref l) (oPair C) (s1 k, d2)))
  exact h1.symm
/-- the list and its first one -/
def hole1 (C l p q : Addr) (d : Ds) : SV where
  ok _ F H v fp := v = some (.ref l) ∧ fp.Perm [l, p] ∧ H l = some (.lst [.ref p, .ref q]) ∧ (oIns C).rep F H (.ref p) [p] d
  stab := fun ⟨h1, h2, h3, h4⟩ m n => ⟨h1, h2, by rw [n l (h2.mem_iff.mpr (by simp))]; exact h3, OTy.stab _ h4 m (fun y hy => n y (h2.mem_iff.mpr (by rw [List.mem_singleton.mp hy]; simp)))⟩
  ioch := fun h _ => h
/-- o[1].m(a, b), o a list of two owned instances, a and b written texts -/
theorem ev_mlP1 {m : Str} {A : Type} {pre : A → Prop} {s0 s1 : A → Ds} {ins : A → List SV} {res : A → SV} {u v : Str} (k : A) (h0 : ρ[i]? = some (own x (oPair C) (d1, d2))) (hs : s0 k = d2) (hm : d2.lookup m = none) (hi : ins k = [dat tStr u, dat tStr v]) (hp : pre k) :
    EvE B ρ (tMt C m (spM pre (oIns C) s0 ins s1 res) (tOp (rIxL K) (tVar i) (tC (.int 1))) (tCons (tC (.str u)) (tCons (tC (.str v)) tNil))) (res k) (ρ.set i (own x (oPair C) (d1, s1 k))) := fun H σ τ Q st qq => by
  obtain ⟨v', e, lz, p1, p2, _⟩ := zip_perm st.len h0
  have c := st.core.perm (perm_top τ p1)
  obtain ⟨l, p, q, hx, hl, hv, dx, fs, hins, hfs⟩ : ∃ l p q, x = .ref l ∧ H l = some (.lst [.ref p, .ref q]) ∧ v' = some x ∧ ∃ dx fs, H q = some (.ins C dx fs) ∧ ∃ F, FsR F fs d2 := by
    obtain ⟨F, gs, cc⟩ := id c
    cases gs with
    | nil => exact cc.sl.elim
    | cons fp gs =>
      obtain ⟨g1, l, p, q, g2, g3, g4, g5, g6⟩ := cc.sl.1
      obtain ⟨y, dx, fs, k1, _, k2, k3⟩ := g6
      cases k1
      exact ⟨l, p, q, g2, g4, g1, dx, fs, k2, F, k3⟩
  subst hx hv
  have nl : fs.lookup m = none := by
    obtain ⟨F, hfs⟩ := hfs
    exact fsR_lk hm hfs
  have c2 : Core B H ((some (.ref q), own (.ref q) (oIns C) d2) :: (some (.ref l), hole1 C l p q d1) :: (τ ++ lz)) := c.resplit fun F fp _ ⟨g1, l', p', q', g2, g3, g4, g5, g6⟩ => by
    cases g2
    rw [hl] at g4
    cases g4
    exact ⟨[q], [l, p], g3.trans (((List.Perm.swap _ _ _).cons _).trans (List.Perm.swap _ _ _)), ⟨rfl, g6⟩, ⟨rfl, .refl _, hl, g5⟩⟩
  refine ⟨.ref l, e, l, [.ref p, .ref q], 1, .ref q, rfl, rfl, .inl (.inl hl), rfl, q, dx, fs, rfl, hins, nl, ?_⟩
  have c3 : Core B H ([(some (.ref q), own (.ref q) (oIns C) (s0 k)), (some (.str u), dat tStr u), (some (.str v), dat tStr v)] ++ ((some (.ref l), hole1 C l p q d1) :: (τ ++ lz))) := by
    rw [hs]
    have c4 := (c2.sc (T := tStr) (a := v) (x := .str v) sc_str).sc (T := tStr) (a := u) (x := .str u) sc_str
    refine c4.perm ?_
    exact ((List.Perm.swap _ _ _).cons _).trans (List.Perm.swap _ _ _)
  obtain ⟨F, fi, pr, kk⟩ := c3.frame (fun y hy => by
    rcases List.mem_cons.mp hy with rfl | hy
    · exact fr_own
    rcases List.mem_cons.mp hy with rfl | hy
    · exact fr_dat
    rw [List.mem_singleton.mp hy]
    exact fr_dat)
  refine ⟨k, F, fi, .ref q, [.str u, .str v], hp, rfl, by rw [hi]; rfl, by rw [hi]; exact pr, fun w H' d => qq w H' ⟨by rw [List.length_set]; exact st.len, ?_⟩⟩
  have c5 : Core B H' ((some w, res k) :: (some (.ref q), own (.ref q) (oIns C) (s1 k)) :: (some (.ref l), hole1 C l p q d1) :: (τ ++ lz)) := kk H' _ d
  have c6 : Core B H' ((some (.ref l), own (.ref l) (oPair C) (d1, s1 k)) :: (some w, res k) :: (τ ++ lz)) := by
    have c7 : Core B H' ((some (.ref q), own (.ref q) (oIns C) (s1 k)) :: (some (.ref l), hole1 C l p q d1) :: (some w, res k) :: (τ ++ lz)) := c5.perm ((List.Perm.swap _ _ _).trans ((List.Perm.swap _ _ _).cons _))
    refine c7.rejoin fun F f1 f2 _ ⟨g1, g2⟩ ⟨g3, g4, g5, g6⟩ => ?_
    obtain ⟨y, dx', fs', k1, k2, k3⟩ := id g2
    cases k1
    subst k2
    exact ⟨rfl, l, p, q, rfl, (by exact (g4.cons q).trans ((List.Perm.swap _ _ _).trans ((List.Perm.swap _ _ _).cons _))), g5, g6, g2⟩
  refine c6.perm ?_
  have h1 := perm_top ((some w, res k) :: τ) (p2 (own (.ref l) (oPair C) (d1, s1 k)))
  exact h1.symm
end
end Sw
/-! text Pl9 -/
/-! Pl9: what combining promises gives. -/
namespace K79
open PySem PySem.Spec PyProof.Rows L2 Sw
abbrev in2 (p : Str × Str) : Prop := p.1 ∈ two ∧ p.2 ∈ two
def jw (s t u : Str) (a b : Str × Str) (k : Nat) : Str := ixD [s, t] (if decide (u ∈ [ixD [a.1, a.2] (k : Int), ixD [b.1, b.2] (k : Int)]) = true then 1 else 0)
theorem two_all {p : Str → Prop} (h0 : p "fresh") (h1 : p "kept") : ∀ x ∈ two, p x := fun x hx => by
  rcases List.mem_cons.mp hx with rfl | hx
  · exact h0
  · rw [List.mem_singleton.mp hx]; exact h1
theorem jm_tab : ∀ x ∈ two, ∀ y ∈ two, ∀ u ∈ two, ∀ v ∈ two,
    [jw "fresh" "kept" "kept" (x, y) (u, v) 0, jw "fresh" "kept" "kept" (x, y) (u, v) 1] = [(m_Por (x, y) (u, v)).1, (m_Por (x, y) (u, v)).2] ∧
    [jw "kept" "fresh" "fresh" (x, y) (u, v) 0, jw "kept" "fresh" "fresh" (x, y) (u, v) 1] = [(m_Pand (x, y) (u, v)).1, (m_Pand (x, y) (u, v)).2] ∧
    m_Ple (x, y) (m_Por (x, y) (u, v)) = true ∧ m_Ple (u, v) (m_Por (x, y) (u, v)) = true ∧ m_Ple (m_Pand (x, y) (u, v)) (x, y) = true ∧ m_Ple (m_Pand (x, y) (u, v)) (u, v) = true ∧
    (m_Por (x, y) (u, v)).1 ∈ two ∧ (m_Por (x, y) (u, v)).2 ∈ two ∧ (m_Pand (x, y) (u, v)).1 ∈ two ∧ (m_Pand (x, y) (u, v)).2 ∈ two := by decide +kernel
theorem lt_tab : ∀ x ∈ two, ∀ y ∈ two, ∀ u ∈ two, ∀ v ∈ two, ∀ s ∈ two, ∀ t ∈ two,
    m_Ple (m_Por (x, y) (u, v)) (s, t) = (m__law_weaker [x, y] [s, t] && m__law_weaker [u, v] [s, t]) ∧ m_Ple (s, t) (m_Pand (x, y) (u, v)) = (m__law_weaker [s, t] [x, y] && m__law_weaker [s, t] [u, v]) := by decide +kernel
/-- harm, by the words -/
def hm (e : Str) (p : Str × Str) : Bool := hF e || (hK e && decide ((if rsv e = true then p.2 else p.1) = ("kept" : Str)))
theorem freest_hm {p : Str × Str} (h : in2 p) : m_freest p = part fun e => !hm e p := by
  rw [freest_eq]
  refine List.filter_congr fun e he => ?_
  rw [harm4 e he p.1 h.1 p.2 h.2]
  rfl
theorem pk_tab : ∀ x ∈ two, ∀ u ∈ two, (decide (pick2 "kept" "fresh" x u = ("kept" : Str)) = (decide (x = ("kept" : Str)) || decide (u = ("kept" : Str)))) ∧ (decide (pick2 "fresh" "kept" x u = ("kept" : Str)) = (decide (x = ("kept" : Str)) && decide (u = ("kept" : Str)))) := by decide +kernel
theorem hm_or {a b : Str × Str} (ha : in2 a) (hb : in2 b) (e : Str) : (!hm e (m_Por a b)) = (!hm e a && !hm e b) := by
  unfold hm m_Por
  have h1 := (pk_tab a.1 ha.1 b.1 hb.1).1
  have h2 := (pk_tab a.2 ha.2 b.2 hb.2).1
  cases hr : rsv e
  · simp only [Bool.false_eq_true, if_false]
    rw [h1]
    cases hF e <;> cases hK e <;> simp
  · simp only [if_true]
    rw [h2]
    cases hF e <;> cases hK e <;> simp
theorem hm_and {a b : Str × Str} (ha : in2 a) (hb : in2 b) (e : Str) : (!hm e (m_Pand a b)) = (!hm e a || !hm e b) := by
  unfold hm m_Pand
  have h1 := (pk_tab a.1 ha.1 b.1 hb.1).2
  have h2 := (pk_tab a.2 ha.2 b.2 hb.2).2
  cases hr : rsv e
  · simp only [Bool.false_eq_true, if_false]
    rw [h1]
    cases hF e <;> cases hK e <;> simp
  · simp only [if_true]
    rw [h2]
    cases hF e <;> cases hK e <;> simp
theorem or_in {a b : Str × Str} (ha : in2 a) (hb : in2 b) : in2 (m_Por a b) := by
  obtain ⟨_, _, _, _, _, _, h1, h2, _⟩ := jm_tab a.1 ha.1 a.2 ha.2 b.1 hb.1 b.2 hb.2
  exact ⟨h1, h2⟩
theorem and_in {a b : Str × Str} (ha : in2 a) (hb : in2 b) : in2 (m_Pand a b) := by
  obtain ⟨_, _, _, _, _, _, _, _, h1, h2⟩ := jm_tab a.1 ha.1 a.2 ha.2 b.1 hb.1 b.2 hb.2
  exact ⟨h1, h2⟩
theorem fr_or {a b : Str × Str} (ha : in2 a) (hb : in2 b) : m_freest (m_Por a b) = (m_freest a).filter fun e => decide (e ∈ m_freest b) := by
  rw [freest_hm (or_in ha hb), freest_hm ha, freest_hm hb, List.filter_filter]
  refine List.filter_congr fun e he => ?_
  rw [hm_or ha hb, Bool.eq_iff_iff]
  simp only [Bool.and_eq_true, decide_eq_true_eq, List.mem_filter]
  exact ⟨fun h => ⟨⟨he, h.2⟩, h.1⟩, fun h => ⟨h.2, h.1.2⟩⟩
theorem fr_and {a b : Str × Str} (ha : in2 a) (hb : in2 b) : m_freest (m_Pand a b) = allE.filter fun e => decide (e ∈ m_freest a) || decide (e ∈ m_freest b) := by
  rw [freest_hm (and_in ha hb), freest_hm ha, freest_hm hb]
  refine List.filter_congr fun e he => ?_
  rw [hm_and ha hb, Bool.eq_iff_iff]
  simp only [Bool.or_eq_true, decide_eq_true_eq, List.mem_filter]
  exact ⟨fun h => h.imp (fun z => ⟨he, z⟩) fun z => ⟨he, z⟩, fun h => h.imp (fun z => z.2) fun z => z.2⟩
theorem freest_len (p : Str × Str) : (m_freest p).length ≤ 105 := by
  rw [freest_eq]
  exact Nat.le_trans (List.length_filter_le _ _) (by rw [allE_len]; decide)
theorem freest_mem {p : Str × Str} {e : Str} (h : e ∈ m_freest p) : e ∈ allE := by
  rw [freest_eq] at h
  exact (List.mem_filter.mp h).1
end K79
/-! text D24 -/
set_option maxHeartbeats 1000000
/-! D24: _law_combines -/
namespace K79
open PySem PySem.Spec PyProof.Rows L2 Sw ItX
section
variable {P : Program} {w : World} {K : PySem.W.Frag} {mg : Str → Option Value} {base : Heap} (T : Tx w K mg)
abbrev s_comb : Stmt := top 65
abbrev N_comb : List Str := ["words", "others", "third", "one", "two", "promise", "joint", "meet", "told", "rows", "either", "k", "entry"]
theorem sc_comb : FnScope N_comb ["words", "others", "third"] (defScope s_comb) := ⟨rfl, rfl, rfl, by decide +kernel, rfl, by decide +kernel, by decide +kernel⟩
theorem gSLL (T : Tx w K mg) : Gn P w K mg base 5 "_law_same" (spSame (tList (tList tStr)) fun xs => xs.length ≤ 1000 ∧ ∀ x ∈ xs, (x.length ≤ 1000 ∧ ∀ y ∈ x, True)) := g_same_list T (gSL T)
theorem gSLB (T : Tx w K mg) : Gn P w K mg base 3 "_law_same" (spSame (tList tBl) fun xs => xs.length ≤ 1000 ∧ ∀ x ∈ xs, True) := g_same_list T (g_same_bl T)
abbrev sp_comb : Sp := spF (A := (Str × Str) × (Str × Str) × (Str × Str)) (fun x => in2 x.1 ∧ in2 x.2.1 ∧ in2 x.2.2) (fun x => [dat (tList tStr) [x.1.1, x.1.2], dat (tList tStr) [x.2.1.1, x.2.1.2], dat (tList tStr) [x.2.2.1, x.2.2.2]]) (fun _ => dat tBl true)
theorem pre_ll {x y u v : Str} : [[x, y], [u, v]].length ≤ 1000 ∧ ∀ z ∈ [[x, y], [u, v]], (z.length ≤ 1000 ∧ ∀ s ∈ z, True) := ⟨by show 2 ≤ 1000; decide, fun z hz => ⟨by
  rcases List.mem_cons.mp hz with rfl | hz
  · show 2 ≤ 1000; decide
  · rw [List.mem_singleton.mp hz]; show 2 ≤ 1000; decide, fun _ _ => trivial⟩⟩
theorem chg2 (b : Str × Str) : m_change (m_change (("fresh" : Str), ("kept" : Str)) ("look" : Str) b.1) ("reserved" : Str) b.2 = b := by
  unfold m_change
  rw [if_pos rfl, if_neg (by decide +kernel)]
theorem lt2 {k : Nat} (h : k < (2 : Int).toNat) : k < 2 := h
theorem at2 {s t : Str} (b : Bool) : atI [s, t] (if b = true then 1 else 0) = some (ixD [s, t] (if b = true then 1 else 0)) := by cases b <;> rfl
theorem g_comb (T : Tx w K mg) : Gn P w K mg base 9 "_law_combines" sp_comb := by
  have nd := sc_comb.nd
  refine gn_of T.d__law_combines sc_comb (lenF fun _ => rfl) (fun _ _ _ _ _ _ us hl => match us, hl with | [_, _, _], _ => rfl) (fun f cdv A outer s H vs Q E hr h => ⟨_, (pss_cons (ps_set (i := 3) nd rfl (by first | exact Or.inl rfl | exact Or.inr rfl) (pe_mkR (g_P_init T) hr (by decide) rfl (pa_cons (pe_ix (ix_list_K (K := K) rfl) (pv 0) pe_int (fun _ _ => rfl)) (pa_cons (pe_ix (ix_list_K (K := K) rfl) (pv 0) pe_int (fun _ _ => rfl)) pa_nil)))) (pss_cons (ps_set (i := 4) nd rfl (by first | exact Or.inl rfl | exact Or.inr rfl) (pe_mkR (g_P_init T) hr (by decide) rfl (pa_cons pe_str (pa_cons pe_str pa_nil)))) (pss_cons (ps_expr (pe_ml (g_P_change T) hr (by decide) (pv 4) (pa_cons pe_str (pa_cons (pe_ix (ix_list_K (K := K) rfl) (pv 1) pe_int (fun _ _ => rfl)) pa_nil)))) (pss_cons (ps_expr (pe_ml (g_P_change T) hr (by decide) (pv 4) (pa_cons pe_str (pa_cons (pe_ix (ix_list_K (K := K) rfl) (pv 1) pe_int (fun _ _ => rfl)) pa_nil)))) (pss_cons (ps_set (i := 5) nd rfl (by first | exact Or.inl rfl | exact Or.inr rfl) (pe_mkR (g_P_init T) hr (by decide) rfl (pa_cons (pe_ix (ix_list_K (K := K) rfl) (pv 2) pe_int (fun _ _ => rfl)) (pa_cons (pe_ix (ix_list_K (K := K) rfl) (pv 2) pe_int (fun _ _ => rfl)) pa_nil)))) (pss_cons (ps_setLc (i := 6) (own := [("k", 11)]) (g := gName 11) (tt := tYes) (by rfl) nd rfl rfl (sw_true rfl rfl rfl (by decide +kernel)) (pi_range1 rfl T.n_range (pa_cons pe_int pa_nil)) (blkOk_by (own := [("k", 11)]) (N := N_comb) (sc := defScope s_comb) (by decide +kernel)) (fun _ _ _ _ _ => pg_name (i := 11) nd rfl (Or.inl rfl)) (fun _ _ _ _ _ => pts_nil) (fun _ _ _ _ _ => (pe_ix (ix_list_K (K := K) rfl) (pe_lst (pa_cons pe_str (pa_cons pe_str pa_nil))) (pe_callTy call_int1 (by rfl) T.n_int (by decide +kernel) (pa_cons (pe_cmpR (op_in_K (K := K) rfl) pe_str (pe_lst (pa_cons (pe_ix (ix_list_K (K := K) rfl) (pv 0) (pv 11) (fun _ _ => rfl)) (pa_cons (pe_ix (ix_list_K (K := K) rfl) (pv 1) (pv 11) (fun _ _ => rfl)) pa_nil))) (by with_unfolding_all rfl)) pa_nil)) (fun _ _ => rfl)))) (pss_cons (ps_setLc (i := 7) (own := [("k", 11)]) (g := gName 11) (tt := tYes) (by rfl) nd rfl rfl (sw_true rfl rfl rfl (by decide +kernel)) (pi_range1 rfl T.n_range (pa_cons pe_int pa_nil)) (blkOk_by (own := [("k", 11)]) (N := N_comb) (sc := defScope s_comb) (by decide +kernel)) (fun _ _ _ _ _ => pg_name (i := 11) nd rfl (Or.inl rfl)) (fun _ _ _ _ _ => pts_nil) (fun _ _ _ _ _ => (pe_ix (ix_list_K (K := K) rfl) (pe_lst (pa_cons pe_str (pa_cons pe_str pa_nil))) (pe_callTy call_int1 (by rfl) T.n_int (by decide +kernel) (pa_cons (pe_cmpR (op_in_K (K := K) rfl) pe_str (pe_lst (pa_cons (pe_ix (ix_list_K (K := K) rfl) (pv 0) (pv 11) (fun _ _ => rfl)) (pa_cons (pe_ix (ix_list_K (K := K) rfl) (pv 1) (pv 11) (fun _ _ => rfl)) pa_nil))) (by with_unfolding_all rfl)) pa_nil)) (fun _ _ => rfl)))) (pss_cons (ps_set (i := 8) nd rfl (by first | exact Or.inl rfl | exact Or.inr rfl) (pe_lst (pa_cons (pe_op (on_op (g_P_or T) hr (by decide)) (pv 3) (pv 4)) (pa_cons (pe_op (on_op (g_P_and T) hr (by decide)) (pv 3) (pv 4)) pa_nil)))) (pss_cons (ps_if (pt_not (pt_val (pe_cl (gSLL T) hr (by decide) rfl (pa_cons (pe_lst (pa_cons (pe_cl (g__law_words_of T) hr (by decide) rfl (pa_cons (pe_ix (ix_list_K (K := K) rfl) (pv 8) pe_int (fun _ _ => rfl)) pa_nil)) (pa_cons (pe_cl (g__law_words_of T) hr (by decide) rfl (pa_cons (pe_ix (ix_list_K (K := K) rfl) (pv 8) pe_int (fun _ _ => rfl)) pa_nil)) pa_nil))) (pa_cons (pe_lst (pa_cons (pv 6) (pa_cons (pv 7) pa_nil))) pa_nil))))) (pss_one (ps_ret pe_bl)) pss_nil) (pss_cons (ps_set (i := 9) nd rfl (by first | exact Or.inl rfl | exact Or.inr rfl) (pe_lst (pa_cons (pe_callTy (cr_listO (g_R_il T) hr (by decide) spF_mono) (by rfl) T.n_list (by decide +kernel) (pa_cons (pe_cl (g_freest T) hr (by decide) rfl (pa_cons (pv 3) pa_nil)) pa_nil)) (pa_cons (pe_callTy (cr_listO (g_R_il T) hr (by decide) spF_mono) (by rfl) T.n_list (by decide +kernel) (pa_cons (pe_cl (g_freest T) hr (by decide) rfl (pa_cons (pv 4) pa_nil)) pa_nil)) pa_nil)))) (pss_cons (ps_if (pt_not (pt_val (pe_cl (gSL T) hr (by decide) rfl (pa_cons (pe_callTy (cr_listO (g_R_il T) hr (by decide) spF_mono) (by rfl) T.n_list (by decide +kernel) (pa_cons (pe_cl (g_freest T) hr (by decide) rfl (pa_cons (pe_ix (ix_list_K (K := K) rfl) (pv 8) pe_int (fun _ _ => rfl)) pa_nil)) pa_nil)) (pa_cons (pe_lc (own := [("entry", 12)]) (g := gName 12) (by rfl) nd (pi_list (pe_ix (ix_list_K (K := K) rfl) (pv 9) pe_int (fun _ _ => rfl))) (blkOk_by (own := [("entry", 12)]) (N := N_comb) (sc := defScope s_comb) (by decide +kernel)) (fun _ _ _ _ _ => pg_name (i := 12) nd rfl (Or.inl rfl)) (fun _ _ _ _ _ => (pts_one (pt_cmpR (op_in_K (K := K) rfl) (pv 12) (pe_ix (ix_list_K (K := K) rfl) (pv 9) pe_int (fun _ _ => rfl)) (by with_unfolding_all rfl)))) (fun _ _ _ _ _ => (pv 12))) pa_nil))))) (pss_one (ps_ret pe_bl)) pss_nil) (pss_cons (ps_setLc (i := 10) (own := [("entry", 12)]) (g := gName 12) (by rfl) nd rfl rfl (sw_true rfl rfl rfl (by decide +kernel)) (pi_list (pe_cl0 (g__law_entries T) hr (by decide) rfl)) (blkOk_by (own := [("entry", 12)]) (N := N_comb) (sc := defScope s_comb) (by decide +kernel)) (fun _ _ _ _ _ => pg_name (i := 12) nd rfl (Or.inl rfl)) (fun _ _ _ _ _ => (pts_one (PW.pt (pw_or (pt_cmpR (op_in_K (K := K) rfl) (pv 12) (pe_ix (ix_list_K (K := K) rfl) (pv 9) pe_int (fun _ _ => rfl)) (by with_unfolding_all rfl)) (pw_or1 (pt_cmpR (op_in_K (K := K) rfl) (pv 12) (pe_ix (ix_list_K (K := K) rfl) (pv 9) pe_int (fun _ _ => rfl)) (by with_unfolding_all rfl))))))) (fun _ _ _ _ _ => (pv 12))) (pss_cons (ps_if (pt_not (pt_val (pe_cl (gSL T) hr (by decide) rfl (pa_cons (pe_callTy (cr_listO (g_R_il T) hr (by decide) spF_mono) (by rfl) T.n_list (by decide +kernel) (pa_cons (pe_cl (g_freest T) hr (by decide) rfl (pa_cons (pe_ix (ix_list_K (K := K) rfl) (pv 8) pe_int (fun _ _ => rfl)) pa_nil)) pa_nil)) (pa_cons (pv 10) pa_nil))))) (pss_one (ps_ret pe_bl)) pss_nil) (pss_cons (ps_if (pt_not (pt_val (pe_cl (gSLB T) hr (by decide) rfl (pa_cons (pe_lst (pa_cons (pe_cmpR (on_le (g_P_le T) hr (by decide) T.nfP) (pv 3) (pe_ix (ix_list_K (K := K) rfl) (pv 8) pe_int (fun _ _ => rfl)) (nomark _)) (pa_cons (pe_cmpR (on_le (g_P_le T) hr (by decide) T.nfP) (pv 4) (pe_ix (ix_list_K (K := K) rfl) (pv 8) pe_int (fun _ _ => rfl)) (nomark _)) (pa_cons (pe_cmpR (on_le (g_P_le T) hr (by decide) T.nfP) (pe_ix (ix_list_K (K := K) rfl) (pv 8) pe_int (fun _ _ => rfl)) (pv 3) (nomark _)) (pa_cons (pe_cmpR (on_le (g_P_le T) hr (by decide) T.nfP) (pe_ix (ix_list_K (K := K) rfl) (pv 8) pe_int (fun _ _ => rfl)) (pv 4) (nomark _)) pa_nil))))) (pa_cons (pe_lst (pa_cons pe_bl (pa_cons pe_bl (pa_cons pe_bl (pa_cons pe_bl pa_nil))))) pa_nil))))) (pss_one (ps_ret pe_bl)) pss_nil) (pss_cons (ps_if (pt_not (pt_val (pe_cl (gSB T) hr (by decide) rfl (pa_cons (pe_cmpR (on_le (g_P_le T) hr (by decide) T.nfP) (pe_ix (ix_list_K (K := K) rfl) (pv 8) pe_int (fun _ _ => rfl)) (pv 5) (nomark _)) (pa_cons (pe_and (pe_cl (g__law_weaker T) hr (by decide) rfl (pa_cons (pv 0) (pa_cons (pv 2) pa_nil))) (pe_one (pe_cl (g__law_weaker T) hr (by decide) rfl (pa_cons (pv 1) (pa_cons (pv 2) pa_nil))))) pa_nil))))) (pss_one (ps_ret pe_bl)) pss_nil) (pss_cons (ps_if (pt_not (pt_val (pe_cl (gSB T) hr (by decide) rfl (pa_cons (pe_cmpR (on_le (g_P_le T) hr (by decide) T.nfP) (pv 5) (pe_ix (ix_list_K (K := K) rfl) (pv 8) pe_int (fun _ _ => rfl)) (nomark _)) (pa_cons (pe_and (pe_cl (g__law_weaker T) hr (by decide) rfl (pa_cons (pv 2) (pa_cons (pv 0) pa_nil))) (pe_one (pe_cl (g__law_weaker T) hr (by decide) rfl (pa_cons (pv 2) (pa_cons (pv 1) pa_nil))))) pa_nil))))) (pss_one (ps_ret pe_bl)) pss_nil) (pss_cons (ps_expr (pe_ml (g_P_change T) hr (by decide) (pe_ix (ix_list_K (K := K) rfl) (pv 8) pe_int (fun _ _ => rfl)) (pa_cons pe_str (pa_cons pe_str pa_nil)))) (pss_cons (ps_expr (pe_ml (g_P_change T) hr (by decide) (pe_ix (ix_list_K (K := K) rfl) (pv 8) pe_int (fun _ _ => rfl)) (pa_cons pe_str (pa_cons pe_str pa_nil)))) (pss_one (ps_ret (pe_cl (gSLL T) hr (by decide) rfl (pa_cons (pe_lst (pa_cons (pe_cl (g__law_words_of T) hr (by decide) rfl (pa_cons (pv 3) pa_nil)) (pa_cons (pe_cl (g__law_words_of T) hr (by decide) rfl (pa_cons (pv 4) pa_nil)) pa_nil))) (pa_cons (pe_lst (pa_cons (pv 0) (pa_cons (pv 1) pa_nil))) pa_nil))))))))))))))))))))))), body_F h fun x B hp => ?_⟩)
  obtain ⟨a, b, c⟩ := x
  obtain ⟨ha, hb, hc⟩ := hp
  have ha : in2 a := ha
  have hb : in2 b := hb
  have hc : in2 c := hc
  obtain ⟨t1, t2, t3, t4, t5, t6, _⟩ := jm_tab a.1 ha.1 a.2 ha.2 b.1 hb.1 b.2 hb.2
  obtain ⟨t7, t8⟩ := lt_tab a.1 ha.1 a.2 ha.2 b.1 hb.1 b.2 hb.2 c.1 hc.1 c.2 hc.2
  refine ex_seq (ex_asgO (i := 3) (O := oIns T.cP) (a := dP a) (fr_make a (ea_cons (ev_ixL (a := a.1) (EvE.row (K := K) (ev_var rfl)) ev_int rfl) (ea_cons (ev_ixL (a := a.2) (EvE.row (K := K) (ev_var rfl)) ev_int rfl) ea_nil)) ⟨okW2 ha.1, okW2 ha.2⟩ fr_l2) (by show _ < 13; decide) oat_ins (fun p1 hp1 => ?_))
  refine ex_seq (ex_asgO (i := 4) (O := oIns T.cP) (a := dP (("fresh" : Str), ("kept" : Str))) (fr_make (("fresh" : Str), ("kept" : Str)) (ea_cons ev_str (ea_cons ev_str ea_nil)) ⟨.inl rfl, .inr rfl⟩ fr_l2) (by show _ < 13; decide) oat_ins (fun p2 hp2 => ?_))
  refine ex_seq (ex_drop (ev_mlO (i := 4) (pre := fun a : (Str × Str) × Str × Str => okW a.2.2 ∧ (a.2.1 = "look" ∨ a.2.1 = "reserved")) (s0 := fun a => dP a.1) (s1 := fun a => dP (m_change a.1 a.2.1 a.2.2)) (ins := fun a => [dat tStr a.2.1, dat tStr a.2.2]) (res := fun _ => dat tNon ()) ((("fresh" : Str), ("kept" : Str)), ("look" : Str), b.1) rfl rfl (ea_cons ev_str (ea_cons (ev_ixL (a := b.1) (EvE.row (K := K) (ev_var rfl)) ev_int rfl) ea_nil)) rfl ⟨okW2 hb.1, .inl rfl⟩ fr_l2) ?_)
  refine ex_seq (ex_drop (ev_mlO (i := 4) (pre := fun a : (Str × Str) × Str × Str => okW a.2.2 ∧ (a.2.1 = "look" ∨ a.2.1 = "reserved")) (s0 := fun a => dP a.1) (s1 := fun a => dP (m_change a.1 a.2.1 a.2.2)) (ins := fun a => [dat tStr a.2.1, dat tStr a.2.2]) (res := fun _ => dat tNon ()) (m_change (("fresh" : Str), ("kept" : Str)) ("look" : Str) b.1, ("reserved" : Str), b.2) rfl rfl (ea_cons ev_str (ea_cons (ev_ixL (a := b.2) (EvE.row (K := K) (ev_var rfl)) ev_int rfl) ea_nil)) rfl ⟨okW2 hb.2, .inr rfl⟩ fr_l2) ?_)
  refine ex_hide (i := 4) (s' := own (.ref p2) (oIns T.cP) (dP b)) rfl (fun F H v fp _ h => by rw [← chg2 b]; exact h) ?_
  refine ex_seq (ex_asg (i := 5) (R := dat (tP T) (dP c)) ((fr_make c (ea_cons (ev_ixL (a := c.1) (EvE.row (K := K) (ev_var rfl)) ev_int rfl) (ea_cons (ev_ixL (a := c.2) (EvE.row (K := K) (ev_var rfl)) ev_int rfl) ea_nil)) ⟨okW2 hc.1, okW2 hc.2⟩ fr_l2)).ins (by show _ < 13; decide) ?_)
  refine ex_seq (ex_asg (i := 6) (R := dat (tList tStr) [(m_Por a b).1, (m_Por a b).2]) (((ev_lcR (n := 2) (U := tStr) (fun _ => true) (fun k => jw "fresh" "kept" "kept" a b k) (ea_cons ev_int ea_nil) (by show _ < 13; decide) (by decide) (fun _ _ => et_yes) (fun k hk _ => ev_ixL (a := jw "fresh" "kept" "kept" a b k) (EvE.row (K := K) (ev_lst (T := tStr) (xs := [("fresh" : Str), ("kept" : Str)]) (ea_cons ev_str (ea_cons ev_str ea_nil)) (by show 2 ≤ sizeLine; decide))) (ev_intB (k := decide (("kept" : Str) ∈ [ixD [a.1, a.2] (k : Int), ixD [b.1, b.2] (k : Int)])) (ea_cons (ev_isL ev_str (EvE.row (K := K) (ev_lst (T := tStr) (xs := [ixD [a.1, a.2] (k : Int), ixD [b.1, b.2] (k : Int)]) (ea_cons (ev_ixL (a := ixD [a.1, a.2] (k : Int)) (EvE.row (K := K) (ev_var rfl)) (ev_var rfl) (atI_some (by omega) (by show (k : Int) < 2; have := lt2 hk; omega))) (ea_cons (ev_ixL (a := ixD [b.1, b.2] (k : Int)) (EvE.row (K := K) (ev_var rfl)) (ev_var rfl) (atI_some (by omega) (by show (k : Int) < 2; have := lt2 hk; omega))) ea_nil)) (by show 2 ≤ sizeLine; decide)))) ea_nil)) (at2 _)))).lst.is t1) (by show _ < 13; decide) ?_)
  refine ex_seq (ex_asg (i := 7) (R := dat (tList tStr) [(m_Pand a b).1, (m_Pand a b).2]) (((ev_lcR (n := 2) (U := tStr) (fun _ => true) (fun k => jw "kept" "fresh" "fresh" a b k) (ea_cons ev_int ea_nil) (by show _ < 13; decide) (by decide) (fun _ _ => et_yes) (fun k hk _ => ev_ixL (a := jw "kept" "fresh" "fresh" a b k) (EvE.row (K := K) (ev_lst (T := tStr) (xs := [("kept" : Str), ("fresh" : Str)]) (ea_cons ev_str (ea_cons ev_str ea_nil)) (by show 2 ≤ sizeLine; decide))) (ev_intB (k := decide (("fresh" : Str) ∈ [ixD [a.1, a.2] (k : Int), ixD [b.1, b.2] (k : Int)])) (ea_cons (ev_isL ev_str (EvE.row (K := K) (ev_lst (T := tStr) (xs := [ixD [a.1, a.2] (k : Int), ixD [b.1, b.2] (k : Int)]) (ea_cons (ev_ixL (a := ixD [a.1, a.2] (k : Int)) (EvE.row (K := K) (ev_var rfl)) (ev_var rfl) (atI_some (by omega) (by show (k : Int) < 2; have := lt2 hk; omega))) (ea_cons (ev_ixL (a := ixD [b.1, b.2] (k : Int)) (EvE.row (K := K) (ev_var rfl)) (ev_var rfl) (atI_some (by omega) (by show (k : Int) < 2; have := lt2 hk; omega))) ea_nil)) (by show 2 ≤ sizeLine; decide)))) ea_nil)) (at2 _)))).lst.is t2) (by show _ < 13; decide) ?_)
  refine ex_seq (ex_asg (i := 8) (R := fre (oPair T.cP) (dP (m_Por a b), dP (m_Pand a b))) (fr_pair (ev_lend (bs := [false, false, false, true, true, false, false, false, false, false, false, false, false]) (.still frz_dat (.still frz_dat (.still frz_dat (.lend brw_ins (.lend brw_ins (.still frz_dat (.still frz_dat (.still frz_dat (.still frz_any (.still frz_any (.still frz_any (.still frz_any (.still frz_any .nil))))))))))))) (fr_cons fr_dat (fr_cons fr_dat (fr_cons fr_dat (fr_cons fr_own (fr_cons fr_own (fr_cons fr_dat (fr_cons fr_dat (fr_cons fr_dat (fr_cons fr_any (fr_cons fr_any (fr_cons fr_any (fr_cons fr_any (fr_cons fr_any fr_nil))))))))))))) (era_freI (flatP _)) fun B1 => (ev_own2 (pre := fun _ => True) (ins := fun a : (Str × Str) × Str × Str => [dat (tP T) (dP a.1), dat (tP T) (dP a.2)]) (res := fun a => fre (oIns T.cP) (dP (m_Por a.1 a.2))) (a, b) rfl (ev_varI rfl) (ev_varI rfl) trivial)) (ev_lend (bs := [false, false, false, true, true, false, false, false, false, false, false, false, false]) (.still frz_dat (.still frz_dat (.still frz_dat (.lend brw_ins (.lend brw_ins (.still frz_dat (.still frz_dat (.still frz_dat (.still frz_any (.still frz_any (.still frz_any (.still frz_any (.still frz_any .nil))))))))))))) (fr_cons fr_dat (fr_cons fr_dat (fr_cons fr_dat (fr_cons fr_own (fr_cons fr_own (fr_cons fr_dat (fr_cons fr_dat (fr_cons fr_dat (fr_cons fr_any (fr_cons fr_any (fr_cons fr_any (fr_cons fr_any (fr_cons fr_any fr_nil))))))))))))) (era_freI (flatP _)) fun B1 => (ev_own2 (pre := fun _ => True) (ins := fun a : (Str × Str) × Str × Str => [dat (tP T) (dP a.1), dat (tP T) (dP a.2)]) (res := fun a => fre (oIns T.cP) (dP (m_Pand a.1 a.2))) (a, b) rfl (ev_varI rfl) (ev_varI rfl) trivial))) (by show _ < 13; decide) ?_)
  refine ex_know (i := 8) (A := V) (s' := fun x => own x (oPair T.cP) (dP (m_Por a b), dP (m_Pand a b))) rfl (fun F H v fp _ ⟨x, h1, h2, _⟩ => ⟨x, h1, h2⟩) fun xt => ?_
  refine ex_seq (ex_if (et_lend (bs := [false, false, false, true, true, false, false, false, true, false, false, false, false]) (.still frz_dat (.still frz_dat (.still frz_dat (.lend brw_ins (.lend brw_ins (.still frz_dat (.still frz_dat (.still frz_dat (.lend brw_pair (.still frz_any (.still frz_any (.still frz_any (.still frz_any .nil))))))))))))) (fr_cons fr_dat (fr_cons fr_dat (fr_cons fr_dat (fr_cons fr_own (fr_cons fr_own (fr_cons fr_dat (fr_cons fr_dat (fr_cons fr_dat (fr_cons fr_own (fr_cons fr_any (fr_cons fr_any (fr_cons fr_any (fr_cons fr_any fr_nil))))))))))))) fun B1 => (et_not (et_B (cl_same (T := tList (tList tStr)) [[(m_Por a b).1, (m_Por a b).2], [(m_Pand a b).1, (m_Pand a b).2]] (ea_cons (ev_lst (T := tList tStr) (xs := [[(m_Por a b).1, (m_Por a b).2], [(m_Pand a b).1, (m_Pand a b).2]]) (ea_cons (ev_wof T (m_Por a b) (ev_ixL (T := tP T) (a := dP (m_Por a b)) (EvE.row (K := K) (ev_varI rfl)) ev_int rfl)) (ea_cons (ev_wof T (m_Pand a b) (ev_ixL (T := tP T) (a := dP (m_Pand a b)) (EvE.row (K := K) (ev_varI rfl)) ev_int rfl)) ea_nil)) (by show 2 ≤ sizeLine; decide)) (ea_cons (ev_lst (T := tList tStr) (xs := [[(m_Por a b).1, (m_Por a b).2], [(m_Pand a b).1, (m_Pand a b).2]]) (ea_cons (ev_var rfl) (ea_cons (ev_var rfl) ea_nil)) (by show 2 ≤ sizeLine; decide)) ea_nil)) pre_ll)))) (fun h => by simp at h) (fun _ => ex_next ?_))
  refine ex_seq (ex_asg (i := 9) (R := dat (tList (tList tStr)) [m_freest a, m_freest b]) (ev_lst (T := tList tStr) (xs := [m_freest a, m_freest b]) (ea_cons ((ev_lend (bs := [false, false, false, true, true, false, false, false, true, false, false, false, false]) (.still frz_dat (.still frz_dat (.still frz_dat (.lend brw_ins (.lend brw_ins (.still frz_dat (.still frz_dat (.still frz_dat (.lend brw_pair (.still frz_any (.still frz_any (.still frz_any (.still frz_any .nil))))))))))))) (fr_cons fr_dat (fr_cons fr_dat (fr_cons fr_dat (fr_cons fr_own (fr_cons fr_own (fr_cons fr_dat (fr_cons fr_dat (fr_cons fr_dat (fr_cons fr_own (fr_cons fr_any (fr_cons fr_any (fr_cons fr_any (fr_cons fr_any fr_nil))))))))))))) (era_freL fun _ _ => flt_str) fun B1 => (ev_listR T (Nat.le_trans (freest_len _) (by decide)) (ea_cons (cl_freest (T := T) a (ea_cons (ev_varI rfl) ea_nil) trivial).ins ea_nil)))).lst (ea_cons ((ev_lend (bs := [false, false, false, true, true, false, false, false, true, false, false, false, false]) (.still frz_dat (.still frz_dat (.still frz_dat (.lend brw_ins (.lend brw_ins (.still frz_dat (.still frz_dat (.still frz_dat (.lend brw_pair (.still frz_any (.still frz_any (.still frz_any (.still frz_any .nil))))))))))))) (fr_cons fr_dat (fr_cons fr_dat (fr_cons fr_dat (fr_cons fr_own (fr_cons fr_own (fr_cons fr_dat (fr_cons fr_dat (fr_cons fr_dat (fr_cons fr_own (fr_cons fr_any (fr_cons fr_any (fr_cons fr_any (fr_cons fr_any fr_nil))))))))))))) (era_freL fun _ _ => flt_str) fun B1 => (ev_listR T (Nat.le_trans (freest_len _) (by decide)) (ea_cons (cl_freest (T := T) b (ea_cons (ev_varI rfl) ea_nil) trivial).ins ea_nil)))).lst ea_nil)) (by show 2 ≤ sizeLine; decide)) (by show _ < 13; decide) ?_)
  refine ex_seq (ex_if (et_lend (bs := [false, false, false, true, true, false, false, false, true, false, false, false, false]) (.still frz_dat (.still frz_dat (.still frz_dat (.lend brw_ins (.lend brw_ins (.still frz_dat (.still frz_dat (.still frz_dat (.lend brw_pair (.still frz_dat (.still frz_any (.still frz_any (.still frz_any .nil))))))))))))) (fr_cons fr_dat (fr_cons fr_dat (fr_cons fr_dat (fr_cons fr_own (fr_cons fr_own (fr_cons fr_dat (fr_cons fr_dat (fr_cons fr_dat (fr_cons fr_own (fr_cons fr_dat (fr_cons fr_any (fr_cons fr_any (fr_cons fr_any fr_nil))))))))))))) fun B1 => (et_not (et_B (cl_sameL ((m_freest a).filter fun e => decide (e ∈ m_freest b)) (ea_cons (((ev_listR T (Nat.le_trans (freest_len _) (by decide)) (ea_cons (cl_freest (T := T) (m_Por a b) (ea_cons (ev_ixL (T := tP T) (a := dP (m_Por a b)) (EvE.row (K := K) (ev_varI rfl)) ev_int rfl) ea_nil) trivial).ins ea_nil))).lst.is (fr_or ha hb)) (ea_cons ((ev_lcL (U := tStr) (fun e => decide (e ∈ m_freest b)) (fun e => e) (EvE.row (K := K) (ev_ixL (T := tList tStr) (a := m_freest a) (EvE.row (K := K) (ev_var rfl)) ev_int rfl)) (by show _ < 13; decide) (Nat.le_trans (freest_len _) (by decide)) (fun e he => (et_test (ev_isL (ev_var rfl) (EvE.row (K := K) (ev_ixL (T := tList tStr) (a := m_freest b) (EvE.row (K := K) (ev_var rfl)) ev_int rfl))))) (fun e _ _ => ev_var rfl)).lst.is (List.map_id' _)) ea_nil)) (Nat.le_trans (List.length_filter_le _ _) (Nat.le_trans (freest_len _) (by decide))))))) (fun h => by simp at h) (fun _ => ex_next ?_))
  refine ex_seq (ex_asg (i := 10) (R := dat (tList tStr) (allE.filter fun e => decide (e ∈ m_freest a) || decide (e ∈ m_freest b))) ((ev_lcL (U := tStr) (fun e => decide (e ∈ m_freest a) || decide (e ∈ m_freest b)) (fun e => e) (EvE.row (K := K) ((cl__law_entries (T := T) () ea_nil trivial).lst.is entries_eq)) (by show _ < 13; decide) (by rw [allE_len]; decide) (fun e he => et_or (et_test (ev_isL (ev_var rfl) (EvE.row (K := K) (ev_ixL (T := tList tStr) (a := m_freest a) (EvE.row (K := K) (ev_var rfl)) ev_int rfl)))) (fun _ => (et_test (ev_isL (ev_var rfl) (EvE.row (K := K) (ev_ixL (T := tList tStr) (a := m_freest b) (EvE.row (K := K) (ev_var rfl)) ev_int rfl)))))) (fun e _ _ => ev_var rfl)).lst.is (List.map_id' _)) (by show _ < 13; decide) ?_)
  refine ex_seq (ex_if (et_lend (bs := [false, false, false, true, true, false, false, false, true, false, false, false, false]) (.still frz_dat (.still frz_dat (.still frz_dat (.lend brw_ins (.lend brw_ins (.still frz_dat (.still frz_dat (.still frz_dat (.lend brw_pair (.still frz_dat (.still frz_dat (.still frz_any (.still frz_any .nil))))))))))))) (fr_cons fr_dat (fr_cons fr_dat (fr_cons fr_dat (fr_cons fr_own (fr_cons fr_own (fr_cons fr_dat (fr_cons fr_dat (fr_cons fr_dat (fr_cons fr_own (fr_cons fr_dat (fr_cons fr_dat (fr_cons fr_any (fr_cons fr_any fr_nil))))))))))))) fun B1 => (et_not (et_B (cl_sameL (allE.filter fun e => decide (e ∈ m_freest a) || decide (e ∈ m_freest b)) (ea_cons (((ev_listR T (Nat.le_trans (freest_len _) (by decide)) (ea_cons (cl_freest (T := T) (m_Pand a b) (ea_cons (ev_ixL (T := tP T) (a := dP (m_Pand a b)) (EvE.row (K := K) (ev_varI rfl)) ev_int rfl) ea_nil) trivial).ins ea_nil))).lst.is (fr_and ha hb)) (ea_cons (ev_var rfl) ea_nil)) (Nat.le_trans (List.length_filter_le _ _) (by rw [allE_len]; decide)))))) (fun h => by simp at h) (fun _ => ex_next ?_))
  refine ex_seq (ex_if (et_lend (bs := [false, false, false, true, true, false, false, false, true, false, false, false, false]) (.still frz_dat (.still frz_dat (.still frz_dat (.lend brw_ins (.lend brw_ins (.still frz_dat (.still frz_dat (.still frz_dat (.lend brw_pair (.still frz_dat (.still frz_dat (.still frz_any (.still frz_any .nil))))))))))))) (fr_cons fr_dat (fr_cons fr_dat (fr_cons fr_dat (fr_cons fr_own (fr_cons fr_own (fr_cons fr_dat (fr_cons fr_dat (fr_cons fr_dat (fr_cons fr_own (fr_cons fr_dat (fr_cons fr_dat (fr_cons fr_any (fr_cons fr_any fr_nil))))))))))))) fun B1 => (et_not (et_B (cl_same (T := tList tBl) [true, true, true, true] (ea_cons (ev_lst (T := tBl) (xs := [true, true, true, true]) (ea_cons (EvE.isB (ev_ple T a (m_Por a b) (ev_varI rfl) (ev_ixL (T := tP T) (a := dP (m_Por a b)) (EvE.row (K := K) (ev_varI rfl)) ev_int rfl)) t3) (ea_cons (EvE.isB (ev_ple T b (m_Por a b) (ev_varI rfl) (ev_ixL (T := tP T) (a := dP (m_Por a b)) (EvE.row (K := K) (ev_varI rfl)) ev_int rfl)) t4) (ea_cons (EvE.isB (ev_ple T (m_Pand a b) a (ev_ixL (T := tP T) (a := dP (m_Pand a b)) (EvE.row (K := K) (ev_varI rfl)) ev_int rfl) (ev_varI rfl)) t5) (ea_cons (EvE.isB (ev_ple T (m_Pand a b) b (ev_ixL (T := tP T) (a := dP (m_Pand a b)) (EvE.row (K := K) (ev_varI rfl)) ev_int rfl) (ev_varI rfl)) t6) ea_nil)))) (by show 4 ≤ sizeLine; decide)) (ea_cons (ev_lst (T := tBl) (xs := [true, true, true, true]) (ea_cons ev_bl (ea_cons ev_bl (ea_cons ev_bl (ea_cons ev_bl ea_nil)))) (by show 4 ≤ sizeLine; decide)) ea_nil)) ⟨by show 4 ≤ 1000; decide, fun _ _ => trivial⟩)))) (fun h => by simp at h) (fun _ => ex_next ?_))
  refine ex_seq (ex_if (et_lend (bs := [false, false, false, true, true, false, false, false, true, false, false, false, false]) (.still frz_dat (.still frz_dat (.still frz_dat (.lend brw_ins (.lend brw_ins (.still frz_dat (.still frz_dat (.still frz_dat (.lend brw_pair (.still frz_dat (.still frz_dat (.still frz_any (.still frz_any .nil))))))))))))) (fr_cons fr_dat (fr_cons fr_dat (fr_cons fr_dat (fr_cons fr_own (fr_cons fr_own (fr_cons fr_dat (fr_cons fr_dat (fr_cons fr_dat (fr_cons fr_own (fr_cons fr_dat (fr_cons fr_dat (fr_cons fr_any (fr_cons fr_any fr_nil))))))))))))) fun B1 => (et_not (et_B (cl_sameB (m__law_weaker [a.1, a.2] [c.1, c.2] && m__law_weaker [b.1, b.2] [c.1, c.2]) (ea_cons (EvE.isB (ev_ple T (m_Por a b) c (ev_ixL (T := tP T) (a := dP (m_Por a b)) (EvE.row (K := K) (ev_varI rfl)) ev_int rfl) (ev_var rfl)) t7) (ea_cons (ev_and (cl__law_weaker (T := T) ([a.1, a.2], [c.1, c.2]) (ea_cons (ev_var rfl) (ea_cons (ev_var rfl) ea_nil)) ⟨rfl, rfl⟩) (fun _ => (cl__law_weaker (T := T) ([b.1, b.2], [c.1, c.2]) (ea_cons (ev_var rfl) (ea_cons (ev_var rfl) ea_nil)) ⟨rfl, rfl⟩))) ea_nil)))))) (fun h => by simp at h) (fun _ => ex_next ?_))
  refine ex_seq (ex_if (et_lend (bs := [false, false, false, true, true, false, false, false, true, false, false, false, false]) (.still frz_dat (.still frz_dat (.still frz_dat (.lend brw_ins (.lend brw_ins (.still frz_dat (.still frz_dat (.still frz_dat (.lend brw_pair (.still frz_dat (.still frz_dat (.still frz_any (.still frz_any .nil))))))))))))) (fr_cons fr_dat (fr_cons fr_dat (fr_cons fr_dat (fr_cons fr_own (fr_cons fr_own (fr_cons fr_dat (fr_cons fr_dat (fr_cons fr_dat (fr_cons fr_own (fr_cons fr_dat (fr_cons fr_dat (fr_cons fr_any (fr_cons fr_any fr_nil))))))))))))) fun B1 => (et_not (et_B (cl_sameB (m__law_weaker [c.1, c.2] [a.1, a.2] && m__law_weaker [c.1, c.2] [b.1, b.2]) (ea_cons (EvE.isB (ev_ple T c (m_Pand a b) (ev_var rfl) (ev_ixL (T := tP T) (a := dP (m_Pand a b)) (EvE.row (K := K) (ev_varI rfl)) ev_int rfl)) t8) (ea_cons (ev_and (cl__law_weaker (T := T) ([c.1, c.2], [a.1, a.2]) (ea_cons (ev_var rfl) (ea_cons (ev_var rfl) ea_nil)) ⟨rfl, rfl⟩) (fun _ => (cl__law_weaker (T := T) ([c.1, c.2], [b.1, b.2]) (ea_cons (ev_var rfl) (ea_cons (ev_var rfl) ea_nil)) ⟨rfl, rfl⟩))) ea_nil)))))) (fun h => by simp at h) (fun _ => ex_next ?_))
  refine ex_seq (ex_drop (ev_mlP0 (K := K) (i := 8) (pre := fun a : (Str × Str) × Str × Str => okW a.2.2 ∧ (a.2.1 = "look" ∨ a.2.1 = "reserved")) (s0 := fun a => dP a.1) (s1 := fun a => dP (m_change a.1 a.2.1 a.2.2)) (ins := fun a => [dat tStr a.2.1, dat tStr a.2.2]) (res := fun _ => dat tNon ()) (m_Por a b, ("look" : Str), ("fresh" : Str)) rfl rfl rfl rfl ⟨.inl rfl, .inl rfl⟩) ?_)
  refine ex_seq (ex_drop (ev_mlP1 (K := K) (i := 8) (pre := fun a : (Str × Str) × Str × Str => okW a.2.2 ∧ (a.2.1 = "look" ∨ a.2.1 = "reserved")) (s0 := fun a => dP a.1) (s1 := fun a => dP (m_change a.1 a.2.1 a.2.2)) (ins := fun a => [dat tStr a.2.1, dat tStr a.2.2]) (res := fun _ => dat tNon ()) (m_Pand a b, ("reserved" : Str), ("kept" : Str)) rfl rfl rfl rfl ⟨.inr rfl, .inr rfl⟩) ?_)
  refine ex_ret (ev_lend (bs := [false, false, false, true, true, false, false, false, true, false, false, false, false]) (.still frz_dat (.still frz_dat (.still frz_dat (.lend brw_ins (.lend brw_ins (.still frz_dat (.still frz_dat (.still frz_dat (.lend brw_pair (.still frz_dat (.still frz_dat (.still frz_any (.still frz_any .nil))))))))))))) (fr_cons fr_dat (fr_cons fr_dat (fr_cons fr_dat (fr_cons fr_own (fr_cons fr_own (fr_cons fr_dat (fr_cons fr_dat (fr_cons fr_dat (fr_cons fr_own (fr_cons fr_dat (fr_cons fr_dat (fr_cons fr_any (fr_cons fr_any fr_nil))))))))))))) era_bl fun B1 => (cl_same (T := tList (tList tStr)) [[a.1, a.2], [b.1, b.2]] (ea_cons (ev_lst (T := tList tStr) (xs := [[a.1, a.2], [b.1, b.2]]) (ea_cons (ev_wof T a (ev_varI rfl)) (ea_cons (ev_wof T b (ev_varI rfl)) ea_nil)) (by show 2 ≤ sizeLine; decide)) (ea_cons (ev_lst (T := tList tStr) (xs := [[a.1, a.2], [b.1, b.2]]) (ea_cons (ev_var rfl) (ea_cons (ev_var rfl) ea_nil)) (by show 2 ≤ sizeLine; decide)) ea_nil)) pre_ll)) ?_
  rfl
end
end K79
/-! text D25 -/
set_option maxHeartbeats 1000000
/-! D25: law -/
namespace K79
open PySem PySem.Spec PyProof.Rows L2 Sw ItX
section
variable {P : Program} {w : World} {K : PySem.W.Frag} {mg : Str → Option Value} {base : Heap} (T : Tx w K mg)
abbrev s_law : Stmt := top 66
abbrev N_law : List Str := ["script", "source", "entries", "words", "best", "k", "both", "told", "meet", "m"]
theorem sc_law : FnScope N_law ["script"] (defScope s_law) := ⟨rfl, rfl, rfl, by decide +kernel, rfl, by decide +kernel, by decide +kernel⟩
abbrev sp_law : Sp := spF (A := List Int) (fun a => a.length ≤ 63) (fun a => [dat (tRow K tInt) a]) (fun _ => dat tBl true)
theorem blk_in : blkC N_law { kind := ScopeKind.function, names := [(".0", NameKind.local), ("m", NameKind.local), ("range", NameKind.globalImplicit), ("source", NameKind.cell)], isGenerator := false, isCoroutine := false } { kind := ScopeKind.function, names := [(".0", NameKind.local), ("k", NameKind.local), ("_law_pick", NameKind.globalImplicit), ("source", NameKind.free)], isGenerator := false, isCoroutine := false } [("k", 5)] = true := by decide +kernel
abbrev KF : List Str := [("kept" : Str), "fresh"]
theorem kf_two {x : Str} (h : x ∈ KF) : x ∈ two := by
  rcases List.mem_cons.mp h with rfl | h
  · exact List.mem_cons_of_mem _ List.mem_cons_self
  · rw [List.mem_singleton.mp h]; exact List.mem_cons_self
theorem pair2u {α : Type} {R : V → α → Prop} {vs : List V} {x y : α} (r : Paired R vs [x, y]) : ∃ a b, vs = [a, b] ∧ R a x ∧ R b y := pair2 r
theorem parts_open {F : Hp} {v : V} (h : (tList tPart).rep F v [(), ()]) : ∃ a : List (List Str), (∃ f g : Str → Bool, a = [part f, part g]) ∧ (tList (tList tStr)).rep F v a := by
  obtain ⟨p, vs, e, hp, r⟩ := h
  obtain ⟨a, b, rfl, ⟨f, hf⟩, ⟨g, hg⟩⟩ := pair2 r
  exact ⟨[part f, part g], ⟨f, g, rfl⟩, p, _, e, hp, .cons hf (.cons hg .nil)⟩
theorem one2_open {F : Hp} {v : V} (h : (tList (tOne KF)).rep F v [(), ()]) : ∃ u : Str × Str, in2 u ∧ (tList tStr).rep F v [u.1, u.2] := by
  obtain ⟨p, vs, e, hp, r⟩ := h
  obtain ⟨a, b, rfl, ⟨x, hx, ex⟩, ⟨y, hy, ey⟩⟩ := pair2 r
  exact ⟨(x, y), ⟨kf_two hx, kf_two hy⟩, p, _, e, hp, .cons ex (.cons ey .nil)⟩
theorem words_open {F : Hp} {v : V} (h : (tList (tList (tOne KF))).rep F v [[(), ()], [(), ()]]) : ∃ a : List (List Str), (∃ u v : Str × Str, (in2 u ∧ in2 v) ∧ a = [[u.1, u.2], [v.1, v.2]]) ∧ (tList (tList tStr)).rep F v a := by
  obtain ⟨p, vs, e, hp, r⟩ := h
  obtain ⟨a, b, rfl, h1, h2⟩ := pair2 r
  obtain ⟨u, hu, ru⟩ := one2_open h1
  obtain ⟨w, hw, rw_⟩ := one2_open h2
  exact ⟨_, ⟨u, w, ⟨hu, hw⟩, rfl⟩, p, _, e, hp, .cons ru (.cons rw_ .nil)⟩
theorem part_at (f g : Str → Bool) {i : Nat} (h : i < 2) : ∃ q : Str → Bool, atI [part f, part g] (i : Int) = some (part q) := by
  match i, h with
  | 0, _ => exact ⟨f, rfl⟩
  | 1, _ => exact ⟨g, rfl⟩
theorem grown_len {a : List Int} (h : a.length ≤ 63) : (m__law_grown a).length ≤ 1000 := by
  unfold m__law_grown
  split
  · have := lgr (a, a.foldl st__law_grown_1 7) ((40 : Int)).toNat
    have e : ((40 : Int)).toNat = 40 := rfl
    rw [e] at this ⊢
    have e2 : ((a, a.foldl st__law_grown_1 7) : List Int × Int).1.length = a.length := rfl
    omega
  · omega
theorem ok_law (T : Tx w K mg) {f : Addr} {fd : FuncData} (F : Fun K "law" "law" s_law f fd) : FnOk P w K mg base CX0 11 f fd ["script"] (sp_law (K := K)) := by
  have nd := sc_law.nd
  refine F.ok sc_law (lenF fun _ => rfl) (fun cdv A outer s H vs Q E hr h => ⟨_, (pss_cons (ps_set (i := 1) nd rfl (by first | exact Or.inl rfl | exact Or.inr rfl) (pe_cl (g__law_begin T) hr (by decide) rfl (pa_cons (pe_cl (g__law_grown T) hr (by decide) rfl (pa_cons (pv 0) pa_nil)) pa_nil))) (pss_cons (ps_set (i := 2) nd rfl (by first | exact Or.inl rfl | exact Or.inr rfl) (pe_lst (pa_cons (pe_cl (g_drawn T) hr (by decide) rfl (pa_cons (pv 1) pa_nil)) (pa_cons (pe_cl (g_drawn T) hr (by decide) rfl (pa_cons (pv 1) pa_nil)) pa_nil)))) (pss_cons (ps_setLc (i := 3) (own := [("m", 9)]) (g := gName 9) (tt := tYes) (by rfl) nd rfl rfl (sw_true rfl rfl rfl (by decide +kernel)) (pi_range1 rfl T.n_range (pa_cons pe_int pa_nil)) (blkOk_by (own := [("m", 9)]) (N := N_law) (sc := defScope s_law) (by decide +kernel)) (fun _ _ _ _ _ => pg_name (i := 9) nd rfl (Or.inl rfl)) (fun _ _ _ _ _ => pts_nil) (fun _ _ _ _ _ => (pe_lc (own := [("k", 5)]) (g := gName 5) (tt := tYes) (by rfl) nd (pi_range1 rfl T.n_range (pa_cons pe_int pa_nil)) (blkOk_by (own := [("k", 5)]) (N := N_law) blk_in) (fun _ _ _ _ _ => pg_name (i := 5) nd rfl (Or.inl rfl)) (fun _ _ _ _ _ => pts_nil) (fun _ _ _ _ _ => (pe_cl (g_pickA T) hr (by decide) rfl (pa_cons (pv 1) (pa_cons (pe_lst (pa_cons pe_str (pa_cons pe_str pa_nil))) pa_nil))))))) (pss_cons (ps_set (i := 4) nd rfl (by first | exact Or.inl rfl | exact Or.inr rfl) (pe_lst (pa_cons (pe_cl (g__law_best T) hr (by decide) rfl (pa_cons (pe_ix (ix_list_K (K := K) rfl) (pv 2) pe_int (fun _ _ => rfl)) pa_nil)) (pa_cons (pe_cl (g__law_best T) hr (by decide) rfl (pa_cons (pe_ix (ix_list_K (K := K) rfl) (pv 2) pe_int (fun _ _ => rfl)) pa_nil)) pa_nil)))) (pss_cons (ps_for PassesOwn.never rfl (pi_range1 rfl T.n_range (pa_cons pe_int pa_nil)) (pg_name (i := 5) nd rfl (by first | exact Or.inl rfl | exact Or.inr rfl)) (pss_one (ps_if (pt_not (pt_val (pe_cl (g_told T) hr (by decide) rfl (pa_cons (pe_ix (ix_list_K (K := K) rfl) (pv 2) (pv 5) (fun _ _ => rfl)) pa_nil)))) (pss_one (ps_ret pe_bl)) pss_nil))) (pss_cons (ps_set (i := 6) nd rfl (by first | exact Or.inl rfl | exact Or.inr rfl) (pe_op (on_op (g_R_or T) hr (by decide)) (pe_pg (g_R_live T) hr (by decide) (pe_cl (g__law_rule T) hr (by decide) rfl (pa_cons (pe_ix (ix_list_K (K := K) rfl) (pv 2) pe_int (fun _ _ => rfl)) pa_nil))) (pe_pg (g_R_live T) hr (by decide) (pe_cl (g__law_rule T) hr (by decide) rfl (pa_cons (pe_ix (ix_list_K (K := K) rfl) (pv 2) pe_int (fun _ _ => rfl)) pa_nil))))) (pss_cons (ps_set (i := 7) nd rfl (by first | exact Or.inl rfl | exact Or.inr rfl) (pe_cl (g_strongest T) hr (by decide) rfl (pa_cons (pv 6) pa_nil))) (pss_cons (ps_if (PW.pt (pw_or (pt_cmpR op_isN (pe_ix (ix_list_K (K := K) rfl) (pv 4) pe_int (fun _ _ => rfl)) pe_non (nomark _)) (pw_or1 (pt_cmpR op_isN (pe_ix (ix_list_K (K := K) rfl) (pv 4) pe_int (fun _ _ => rfl)) pe_non (nomark _))))) (pss_one (ps_ret (pe_and (pe_cmpR op_isN (pv 7) pe_non (nomark _)) (pe_one (pe_cl (g_comb T) hr (by decide) rfl (pa_cons (pe_ix (ix_list_K (K := K) rfl) (pv 3) pe_int (fun _ _ => rfl)) (pa_cons (pe_ix (ix_list_K (K := K) rfl) (pv 3) pe_int (fun _ _ => rfl)) (pa_cons (pe_ix (ix_list_K (K := K) rfl) (pv 3) pe_int (fun _ _ => rfl)) pa_nil)))))))) pss_nil) (pss_cons (ps_set (i := 8) nd rfl (by first | exact Or.inl rfl | exact Or.inr rfl) (pe_op (on_op (g_P_and T) hr (by decide)) (pe_cl (g_strongest T) hr (by decide) rfl (pa_cons (pe_cl (g__law_rule T) hr (by decide) rfl (pa_cons (pe_ix (ix_list_K (K := K) rfl) (pv 2) pe_int (fun _ _ => rfl)) pa_nil)) pa_nil)) (pe_cl (g_strongest T) hr (by decide) rfl (pa_cons (pe_cl (g__law_rule T) hr (by decide) rfl (pa_cons (pe_ix (ix_list_K (K := K) rfl) (pv 2) pe_int (fun _ _ => rfl)) pa_nil)) pa_nil)))) (pss_cons (ps_if (pt_not (pt_val (pe_cl (gSL T) hr (by decide) rfl (pa_cons (pe_cl (g__law_words_of T) hr (by decide) rfl (pa_cons (pv 7) pa_nil)) (pa_cons (pe_cl (g__law_words_of T) hr (by decide) rfl (pa_cons (pv 8) pa_nil)) pa_nil))))) (pss_one (ps_ret pe_bl)) pss_nil) (pss_cons (ps_if (PW.pt (pw_or (pt_not (pt_val (pe_cl (g_comb T) hr (by decide) rfl (pa_cons (pe_ix (ix_list_K (K := K) rfl) (pv 3) pe_int (fun _ _ => rfl)) (pa_cons (pe_ix (ix_list_K (K := K) rfl) (pv 3) pe_int (fun _ _ => rfl)) (pa_cons (pe_ix (ix_list_K (K := K) rfl) (pv 4) pe_int (fun _ _ => rfl)) pa_nil)))))) (pw_or1 (pt_not (pt_val (pe_cl (g_comb T) hr (by decide) rfl (pa_cons (pe_ix (ix_list_K (K := K) rfl) (pv 4) pe_int (fun _ _ => rfl)) (pa_cons (pe_ix (ix_list_K (K := K) rfl) (pv 4) pe_int (fun _ _ => rfl)) (pa_cons (pe_ix (ix_list_K (K := K) rfl) (pv 3) pe_int (fun _ _ => rfl)) pa_nil))))))))) (pss_one (ps_ret pe_bl)) pss_nil) (pss_one (ps_ret (pe_cl (g_comb T) hr (by decide) rfl (pa_cons (pe_ix (ix_list_K (K := K) rfl) (pv 3) pe_int (fun _ _ => rfl)) (pa_cons (pe_ix (ix_list_K (K := K) rfl) (pv 3) pe_int (fun _ _ => rfl)) (pa_cons (pe_ix (ix_list_K (K := K) rfl) (pv 4) pe_int (fun _ _ => rfl)) pa_nil))))))))))))))))), body_F h fun a B hp => ?_⟩)
  have hp : a.length ≤ 63 := hp
  have hgl : (m__law_grown a).length ≤ 1000 := grown_len hp
  refine ex_seq (ex_asgO (i := 1) (ev_call (pre := fun a : List Int => a.length ≤ 1000) (ins := fun a => [dat (tList tInt) a]) (res := fun a => fre oSeq (src (a, 0, -1, 0))) (m__law_grown a) (ea_cons (cl__law_grown (T := T) a (ea_cons (ev_var rfl) ea_nil) hp).lst ea_nil) hgl fr_l1) (by show _ < 10; decide) oat_seq (fun p1 hp1 => ?_))
  refine ex_hide (i := 1) (s' := own (.ref p1) oSrc ()) rfl (fun F H v fp _ ⟨h1, h2⟩ => ⟨h1, _, ⟨by show (0 : Int) ≤ 0; decide, hgl⟩, h2⟩) ?_
  refine ex_seq (ex_asg (i := 2) (R := dat (tList tPart) [(), ()]) (ev_lst (T := tPart) (xs := [(), ()]) (ea_cons (ev_callM (i := 1) (pre := fun _ : Unit => True) (O := oSrc) (s0 := fun _ => ()) (ins := fun _ => []) (s1 := fun _ => ()) (res := fun _ => dat tPart ()) () rfl ea_nil rfl trivial fr_nil) (ea_cons (ev_callM (i := 1) (pre := fun _ : Unit => True) (O := oSrc) (s0 := fun _ => ()) (ins := fun _ => []) (s1 := fun _ => ()) (res := fun _ => dat tPart ()) () rfl ea_nil rfl trivial fr_nil) ea_nil)) (by show 2 ≤ sizeLine; decide)) (by show _ < 10; decide) ?_)
  refine ex_openD (i := 2) (T := tList (tList tStr)) (P := fun xs => ∃ f g : Str → Bool, xs = [part f, part g]) rfl (fun F v h => parts_open h) fun xs hxs => ?_
  obtain ⟨f, g, rfl⟩ := hxs
  refine ex_seq (ex_asg (i := 3) (R := dat (tList (tList (tOne KF))) [[(), ()], [(), ()]]) ((ev_lcR (n := 2) (U := tList (tOne KF)) (fun _ => true) (fun _ => [(), ()]) (ea_cons ev_int ea_nil) (by show _ < 10; decide) (by decide) (fun _ _ => et_yes) (fun _ _ _ => (ev_lcR (n := 2) (U := tOne KF) (fun _ => true) (fun _ => ()) (ea_cons ev_int ea_nil) (by show _ < 10; decide) (by decide) (fun _ _ => et_yes) (fun _ _ _ => ev_pick (i := 1) (row := KF) rfl (ea_cons (ev_lst (T := tStr) (xs := KF) (ea_cons ev_str (ea_cons ev_str ea_nil)) (by show 2 ≤ sizeLine; decide)) ea_nil) (by show 0 < 2 ∧ 2 < 1000; decide))).lst)).lst) (by show _ < 10; decide) ?_)
  refine ex_openD (i := 3) (T := tList (tList tStr)) (P := fun xs => ∃ u v : Str × Str, (in2 u ∧ in2 v) ∧ xs = [[u.1, u.2], [v.1, v.2]]) rfl (fun F v h => words_open h) fun xs hxs => ?_
  obtain ⟨u, v, ⟨hu, hv⟩, rfl⟩ := hxs
  refine ex_seq (ex_asg (i := 4) (R := dat (tList (tOpt (tList tStr))) [m_best (part f), m_best (part g)]) (ev_lst (T := tOpt (tList tStr)) (xs := [m_best (part f), m_best (part g)]) (ea_cons (ev_call (pre := fun a => preR a) (ins := fun a => [dat (tList tStr) a]) (res := fun a => dat (tOpt (tList tStr)) (m_best a)) (part f) (ea_cons (ev_ixL (T := tList tStr) (a := part f) (EvE.row (K := K) (ev_var rfl)) ev_int rfl) ea_nil) (part_ok f) fr_l1) (ea_cons (ev_call (pre := fun a => preR a) (ins := fun a => [dat (tList tStr) a]) (res := fun a => dat (tOpt (tList tStr)) (m_best a)) (part g) (ea_cons (ev_ixL (T := tList tStr) (a := part g) (EvE.row (K := K) (ev_var rfl)) ev_int rfl) ea_nil) (part_ok g) fr_l1) ea_nil)) (by show 2 ≤ sizeLine; decide)) (by show _ < 10; decide) ?_)
  refine ex_seq (ex_forR (n := 2) (Iv := fun _ r => ∃ e, r = [dat (tRow K tInt) a, own (.ref p1) oSrc (), dat (tList (tList tStr)) [part f, part g], dat (tList (tList tStr)) [[u.1, u.2], [v.1, v.2]], dat (tList (tOpt (tList tStr))) [m_best (part f), m_best (part g)], e, any, any, any, any]) (ea_cons ev_int ea_nil) (by decide) ⟨_, rfl⟩ (fun i r ⟨e, h⟩ => by rw [h]; show 5 < 10; decide) (fun i r hi ⟨e, h⟩ => ?_) (fun r ⟨e, h⟩ => ?_))
  · subst h
    obtain ⟨h, hh⟩ := part_at f g (lt2 hi)
    refine ex_if (et_not (et_B (ev_call (pre := fun _ : Str → Bool => True) (ins := fun f => [dat (tList tStr) (part f)]) (res := fun _ => dat tBl true) h (ea_cons (ev_ixL (T := tList tStr) (a := part h) (EvE.row (K := K) (ev_var rfl)) (ev_var rfl) hh) ea_nil) trivial fr_l1))) (fun z => nomatch z) (fun _ => ex_next ⟨_, rfl⟩)
  subst h
  refine ex_seq (ex_asg (i := 6) (R := dat (tR T) (dR (part (jn f g)))) (EvE.is' (ev_own2 (pre := fun a : List Str × List Str => preR a.1 ∧ preR a.2) (ins := fun a => [dat (tR T) (dR a.1), dat (tR T) (dR a.2)]) (res := fun a => fre (oIns T.cR) (dR (m_gathered_entries (a.1 ++ a.2)))) (part (lvf f), part (lvf g)) rfl (ev_liv T f (EvE.is' (cl__law_rule (T := T) (part f) (ea_cons (ev_ixL (T := tList tStr) (a := part f) (EvE.row (K := K) (ev_var rfl)) ev_int rfl) ea_nil) (part_ok f)) (congrArg dR (rule_eq f))).ins) (ev_liv T g (EvE.is' (cl__law_rule (T := T) (part g) (ea_cons (ev_ixL (T := tList tStr) (a := part g) (EvE.row (K := K) (ev_var rfl)) ev_int rfl) ea_nil) (part_ok g)) (congrArg dR (rule_eq g))).ins) ⟨part_ok _, part_ok _⟩) (congrArg dR (join_eq f g))).ins (by show _ < 10; decide) ?_)
  have hb1 := best_str f
  have hb2 := best_str g
  have hj := str_join f g
  by_cases hn : ((m_strongest (part f)).isNone || (m_strongest (part g)).isNone) = true
  · have hjn : m_strongest (part (jn f g)) = none := by
      rw [hj]
      cases h1 : m_strongest (part f) with
      | none => rfl
      | some p => cases h2 : m_strongest (part g) with
        | none => rfl
        | some q => rw [h1, h2] at hn; cases hn
    have hbn : ((m_best (part f)).isNone || (m_best (part g)).isNone) = true := by
      rw [hb1, hb2, Option.isNone_map, Option.isNone_map]; exact hn
    refine ex_seq (ex_asg (i := 7) (R := dat tNon ()) (cl_strN T (part (jn f g)) (ea_cons (ev_var rfl) ea_nil) (part_ok _) hjn) (by show _ < 10; decide) ?_)
    refine ex_seq (ex_if (et_or (et_test (ev_isN (ev_ixL (T := tOpt (tList tStr)) (a := m_best (part f)) (EvE.row (K := K) (ev_var rfl)) ev_int rfl))) (fun _ => et_test (ev_isN (ev_ixL (T := tOpt (tList tStr)) (a := m_best (part g)) (EvE.row (K := K) (ev_var rfl)) ev_int rfl)))) (fun _ => ?_) (fun z => by rw [hbn] at z; cases z))
    refine ex_ret (EvE.isB (b := true) (ev_and (ev_isN (T := tP T) (x := none) (EvE.noneO (ev_var rfl))) (fun _ => (ev_call (pre := fun x : (Str × Str) × (Str × Str) × (Str × Str) => in2 x.1 ∧ in2 x.2.1 ∧ in2 x.2.2) (ins := fun x => [dat (tList tStr) [x.1.1, x.1.2], dat (tList tStr) [x.2.1.1, x.2.1.2], dat (tList tStr) [x.2.2.1, x.2.2.2]]) (res := fun _ => dat tBl true) (u, v, u) (ea_cons (ev_ixL (T := tList tStr) (a := [u.1, u.2]) (EvE.row (K := K) (ev_var rfl)) ev_int rfl) (ea_cons (ev_ixL (T := tList tStr) (a := [v.1, v.2]) (EvE.row (K := K) (ev_var rfl)) ev_int rfl) (ea_cons (ev_ixL (T := tList tStr) (a := [u.1, u.2]) (EvE.row (K := K) (ev_var rfl)) ev_int rfl) ea_nil))) ⟨hu, hv, hu⟩ (fr_cons fr_dat fr_l2)))) rfl) ?_
    rfl
  · rw [Bool.not_eq_true, Bool.or_eq_false_iff] at hn
    cases h1 : m_strongest (part f) with
    | none => rw [h1] at hn; cases hn.1
    | some p => cases h2 : m_strongest (part g) with
      | none => rw [h2] at hn; cases hn.2
      | some q =>
        rw [h1, h2] at hj
        rw [h1] at hb1
        rw [h2] at hb2
        rw [hb1, hb2]
        obtain ⟨hpa, hpb⟩ := str_two (part_ok f) h1
        obtain ⟨hqa, hqb⟩ := str_two (part_ok g) h2
        refine ex_seq (ex_asg (i := 7) (R := dat (tP T) (dP (m_Pand p q))) (cl_strP T (part (jn f g)) (ea_cons (ev_var rfl) ea_nil) (part_ok _) hj).ins (by show _ < 10; decide) ?_)
        refine ex_seq (ex_if (et_or (et_test (ev_isN (ev_ixL (T := tOpt (tList tStr)) (a := some [p.1, p.2]) (EvE.row (K := K) (ev_var rfl)) ev_int rfl))) (fun _ => et_test (ev_isN (ev_ixL (T := tOpt (tList tStr)) (a := some [q.1, q.2]) (EvE.row (K := K) (ev_var rfl)) ev_int rfl)))) (fun z => nomatch z) (fun _ => ex_next ?_))
        refine ex_seq (ex_asg (i := 8) (R := dat (tP T) (dP (m_Pand p q))) (ev_own2 (pre := fun _ => True) (ins := fun a : (Str × Str) × Str × Str => [dat (tP T) (dP a.1), dat (tP T) (dP a.2)]) (res := fun a => fre (oIns T.cP) (dP (m_Pand a.1 a.2))) (p, q) rfl (cl_strP T (part f) (ea_cons (EvE.is' (cl__law_rule (T := T) (part f) (ea_cons (ev_ixL (T := tList tStr) (a := part f) (EvE.row (K := K) (ev_var rfl)) ev_int rfl) ea_nil) (part_ok f)) (congrArg dR (rule_eq f))).ins ea_nil) (part_ok f) h1).ins (cl_strP T (part g) (ea_cons (EvE.is' (cl__law_rule (T := T) (part g) (ea_cons (ev_ixL (T := tList tStr) (a := part g) (EvE.row (K := K) (ev_var rfl)) ev_int rfl) ea_nil) (part_ok g)) (congrArg dR (rule_eq g))).ins ea_nil) (part_ok g) h2).ins trivial).ins (by show _ < 10; decide) ?_)
        refine ex_seq (ex_if (et_not (et_B (cl_sameL [(m_Pand p q).1, (m_Pand p q).2] (ea_cons (ev_wof T (m_Pand p q) (ev_var rfl)) (ea_cons (ev_wof T (m_Pand p q) (ev_var rfl)) ea_nil)) (by show 2 ≤ 1000; decide)))) (fun z => nomatch z) (fun _ => ex_next ?_))
        refine ex_seq (ex_if (et_or (et_not (et_B (ev_call (pre := fun x : (Str × Str) × (Str × Str) × (Str × Str) => in2 x.1 ∧ in2 x.2.1 ∧ in2 x.2.2) (ins := fun x => [dat (tList tStr) [x.1.1, x.1.2], dat (tList tStr) [x.2.1.1, x.2.1.2], dat (tList tStr) [x.2.2.1, x.2.2.2]]) (res := fun _ => dat tBl true) (u, v, p) (ea_cons (ev_ixL (T := tList tStr) (a := [u.1, u.2]) (EvE.row (K := K) (ev_var rfl)) ev_int rfl) (ea_cons (ev_ixL (T := tList tStr) (a := [v.1, v.2]) (EvE.row (K := K) (ev_var rfl)) ev_int rfl) (ea_cons (EvE.getO (ev_ixL (T := tOpt (tList tStr)) (a := some [p.1, p.2]) (EvE.row (K := K) (ev_var rfl)) ev_int rfl) rfl) ea_nil))) ⟨hu, hv, ⟨hpa, hpb⟩⟩ (fr_cons fr_dat fr_l2)))) (fun _ => et_not (et_B (ev_call (pre := fun x : (Str × Str) × (Str × Str) × (Str × Str) => in2 x.1 ∧ in2 x.2.1 ∧ in2 x.2.2) (ins := fun x => [dat (tList tStr) [x.1.1, x.1.2], dat (tList tStr) [x.2.1.1, x.2.1.2], dat (tList tStr) [x.2.2.1, x.2.2.2]]) (res := fun _ => dat tBl true) (p, q, v) (ea_cons (EvE.getO (ev_ixL (T := tOpt (tList tStr)) (a := some [p.1, p.2]) (EvE.row (K := K) (ev_var rfl)) ev_int rfl) rfl) (ea_cons (EvE.getO (ev_ixL (T := tOpt (tList tStr)) (a := some [q.1, q.2]) (EvE.row (K := K) (ev_var rfl)) ev_int rfl) rfl) (ea_cons (ev_ixL (T := tList tStr) (a := [v.1, v.2]) (EvE.row (K := K) (ev_var rfl)) ev_int rfl) ea_nil))) ⟨⟨hpa, hpb⟩, ⟨hqa, hqb⟩, hv⟩ (fr_cons fr_dat fr_l2))))) (fun z => nomatch z) (fun _ => ex_next ?_))
        refine ex_ret (ev_call (pre := fun x : (Str × Str) × (Str × Str) × (Str × Str) => in2 x.1 ∧ in2 x.2.1 ∧ in2 x.2.2) (ins := fun x => [dat (tList tStr) [x.1.1, x.1.2], dat (tList tStr) [x.2.1.1, x.2.1.2], dat (tList tStr) [x.2.2.1, x.2.2.2]]) (res := fun _ => dat tBl true) (v, v, q) (ea_cons (ev_ixL (T := tList tStr) (a := [v.1, v.2]) (EvE.row (K := K) (ev_var rfl)) ev_int rfl) (ea_cons (ev_ixL (T := tList tStr) (a := [v.1, v.2]) (EvE.row (K := K) (ev_var rfl)) ev_int rfl) (ea_cons (EvE.getO (ev_ixL (T := tOpt (tList tStr)) (a := some [q.1, q.2]) (EvE.row (K := K) (ev_var rfl)) ev_int rfl) rfl) ea_nil))) ⟨hv, hv, ⟨hqa, hqb⟩⟩ (fr_cons fr_dat fr_l2)) ?_
        rfl
end
end K79
/-! text H3 -/
set_option maxHeartbeats 4000000
/-! H3: the facts of k79 as Tx, the law -/
namespace K79
open PySem PySem.W PySem.Spec PyProof.Rows L2 Sw
section
variable {K : Frag} {w : World} {h : Heap} {mg : PySem.Str → Option Value}
theorem fac (c : obsK K = valK w) (i : Nat) {b : Bool} (hb : (exs K)[i]? = some b) : b = true := by
  have c1 := (He.ba (show ((exs K).all (fun b => b) && fns.all (fun d => d.ok K)) = true from congrArg (fun z : AlK => z.1.1) c)).1
  exact List.all_eq_true.mp c1 b (List.mem_of_getElem? hb)
theorem dfn (c : obsK K = valK w) (i : Nat) {at_ : Frag → Addr} {x qual : PySem.Str} {st : Stmt} (hd : fns[i]? = some ⟨at_, x, qual, L2.defArgs st, L2.defBody st, L2.defScope st, [], []⟩) : ∃ fd, L2.Fun K x qual st (at_ K) fd := by
  have c2 := (He.ba (show ((exs K).all (fun b => b) && fns.all (fun d => d.ok K)) = true from congrArg (fun z : AlK => z.1.1) c)).2
  have e : fns.map (fun d => He5.fnA K (d.at_ K)) = fns.map He5.DefA.val := congrArg (fun z : AlK => z.1.2) c
  have e2 : (fns.map fun d => He5.fnA K (d.at_ K))[i]? = (fns.map He5.DefA.val)[i]? := by rw [e]
  rw [List.getElem?_map, List.getElem?_map, hd] at e2
  obtain ⟨fd, F⟩ := He5.DefA.funD (Option.some.inj e2) (List.all_eq_true.mp c2 _ (List.mem_of_getElem? hd))
  exact ⟨fd, He5.fun_of F⟩
theorem rel_ref {a : Addr} : RelV (.ref a) (.ref a) := rfl
theorem df_of {x : PySem.Str} {st : Stmt} (F : ∃ fd, L2.Fun K x x st (He.ga K x) fd) (g : mg x = some (.ref (He.ga K x))) : Df K mg x st := ⟨let ⟨fd, F⟩ := F; ⟨_, fd, F, g⟩⟩
theorem inv_of (hv : He.valsB K (He.ga K "INVERSES") (c_INVERSES.map fun q => (q.1, He.Dv.str q.2)) = true) : ∀ p ∈ c_INVERSES, ∃ t, nsIn K (He.ga K "INVERSES") p.1 = some (some (.str p.2 t)) := fun p hp => by
  obtain ⟨u, e, r⟩ := He.valsB_ok hv (List.mem_map.mpr ⟨p, hp, rfl⟩)
  obtain ⟨t, rfl⟩ := r
  exact ⟨t, e⟩
theorem pgt_of {C : Addr} {x qual : PySem.Str} {st : Stmt} {p f : Addr} (cl : Cls K C) (F : ∃ fd, L2.Fun K x qual st f fd) (h : PropOf K C x p f) : Pgt K C x qual st := ⟨let ⟨fd, F⟩ := F; ⟨p, f, fd, F, h⟩, cl⟩
theorem pst_of {C : Addr} {x qual : PySem.Str} {st : Stmt} {p f : Addr} (F : ∃ fd, L2.Fun K x qual st f fd) (h : PropS K C x p f) : Pst K C x qual st := ⟨let ⟨fd, F⟩ := F; ⟨p, f, fd, F, h⟩⟩
theorem opr_of {C : Addr} {x qual : PySem.Str} {st : Stmt} {f : Addr} (F : ∃ fd, L2.Fun K x qual st f fd) (h : OpO K C x f) : Opr K C x qual st := ⟨let ⟨fd, F⟩ := F; ⟨f, fd, F, h⟩⟩
theorem ini_of {C : Addr} {qual : PySem.Str} {st : Stmt} {f : Addr} (F : ∃ fd, L2.Fun K "__init__" qual st f fd) (h : Mk K C f) : Ini K C qual st := ⟨let ⟨fd, F⟩ := F; ⟨f, fd, F, h⟩⟩
theorem stc_of {C : Addr} {x qual : PySem.Str} {st : Stmt} (F : ∃ fd, L2.Fun K x qual st (He5.wf K C "staticmethod" x) fd) (r : crdB K C = true) (hw : He5.wrapB K C "staticmethod" "staticmethod.__get__" x = true) : Stc K C x qual st :=
  let ⟨fd, F⟩ := F
  let ⟨h1, h2⟩ := He5.wrapB_ok hw
  ⟨⟨_, _, fd, F, crdB_ok r, h1, h2, F.kp⟩⟩
theorem clm_of {C : Addr} {x qual : PySem.Str} {st : Stmt} (F : ∃ fd, L2.Fun K x qual st (He5.wf K C "classmethod" x) fd) (r : crdB K C = true) (hw : He5.wrapB K C "classmethod" "classmethod.__get__" x = true) (hf : fnIn K (He5.wf K C "classmethod" x) = true) : Clm K C x qual st :=
  let ⟨fd, F⟩ := F
  ⟨⟨_, _, fd, F, He5.cmet_of hw hf⟩, crdB_ok r⟩
theorem itr_of {C : Addr} {qi ql : PySem.Str} {si sl : Stmt} (F : ∃ fd, L2.Fun K "__iter__" qi si (He.ma K C "__iter__") fd) (G : ∃ fd, L2.Fun K "__len__" ql sl (He.ma K C "__len__") fd) (h : ItL K C (He.ma K C "__iter__") (He.ma K C "__len__")) : Itr2 K C qi ql si sl :=
  ⟨let ⟨fd, F⟩ := F; let ⟨gd, G⟩ := G; ⟨_, fd, _, gd, F, G, h⟩⟩
theorem md_at {C : Addr} {x qual : PySem.Str} {st : Stmt} {f : Addr} (F : ∃ fd, L2.Fun K x qual st f fd) (h : Meth K C x f) (cl : Cls K C) : Md K C x qual st := ⟨let ⟨fd, F⟩ := F; ⟨f, fd, F, h⟩, cl⟩
def tx (X : K.In h) (G : h.Ns mainGlobals mg) (c : obsK K = valK w) : Tx w K mg where
  a_STANDINGS := He.ga K "STANDINGS"
  g_STANDINGS := ⟨_, He.glo_ok X G (fac c 0 (b := He.Fa.ok K (.glo "STANDINGS")) rfl), rel_ref⟩
  v_STANDINGS := sc_tup (fac c 68 (b := tupAt K (He.ga K "STANDINGS") (c_STANDINGS.map He.Dv.str)) rfl)
  a_DEEDS := He.ga K "DEEDS"
  g_DEEDS := ⟨_, He.glo_ok X G (fac c 1 (b := He.Fa.ok K (.glo "DEEDS")) rfl), rel_ref⟩
  v_DEEDS := sc_tup (fac c 69 (b := tupAt K (He.ga K "DEEDS") (c_DEEDS.map He.Dv.str)) rfl)
  a_STRONG := He.ga K "STRONG"
  g_STRONG := ⟨_, He.glo_ok X G (fac c 2 (b := He.Fa.ok K (.glo "STRONG")) rfl), rel_ref⟩
  v_STRONG := sc_tup (fac c 70 (b := tupAt K (He.ga K "STRONG") (c_STRONG.map He.Dv.str)) rfl)
  a_RELATIONS := He.ga K "RELATIONS"
  g_RELATIONS := ⟨_, He.glo_ok X G (fac c 3 (b := He.Fa.ok K (.glo "RELATIONS")) rfl), rel_ref⟩
  v_RELATIONS := sc_tup (fac c 71 (b := tupAt K (He.ga K "RELATIONS") (c_RELATIONS.map He.Dv.str)) rfl)
  a_MOVING := He.ga K "MOVING"
  g_MOVING := ⟨_, He.glo_ok X G (fac c 4 (b := He.Fa.ok K (.glo "MOVING")) rfl), rel_ref⟩
  v_MOVING := sc_tup (fac c 72 (b := tupAt K (He.ga K "MOVING") (c_MOVING.map He.Dv.str)) rfl)
  a_INV := He.ga K "INVERSES"
  g_INV := ⟨_, He.glo_ok X G (fac c 5 (b := He.Fa.ok K (.glo "INVERSES")) rfl), rel_ref⟩
  kd_INV := He.dicW_ok (ks := invK) (congrArg (fun z : AlK => z.2) c)
  kv_INV := inv_of (fac c 74 (b := He.valsB K (He.ga K "INVERSES") (c_INVERSES.map fun q => (q.1, He.Dv.str q.2))) rfl)
  d__wall := df_of (dfn c 0 (at_ := fun K => He.ga K "_wall") (x := "_wall") (qual := "_wall") (st := top 0) rfl) (He.glo_ok X G (fac c 6 (b := He.Fa.ok K (.glo "_wall")) rfl))
  d_inverse := df_of (dfn c 1 (at_ := fun K => He.ga K "inverse") (x := "inverse") (qual := "inverse") (st := top 8) rfl) (He.glo_ok X G (fac c 7 (b := He.Fa.ok K (.glo "inverse")) rfl))
  d_all_entries := df_of (dfn c 2 (at_ := fun K => He.ga K "all_entries") (x := "all_entries") (qual := "all_entries") (st := top 14) rfl) (He.glo_ok X G (fac c 8 (b := He.Fa.ok K (.glo "all_entries")) rfl))
  d_written_entries := df_of (dfn c 3 (at_ := fun K => He.ga K "written_entries") (x := "written_entries") (qual := "written_entries") (st := top 15) rfl) (He.glo_ok X G (fac c 9 (b := He.Fa.ok K (.glo "written_entries")) rfl))
  d_words_of := df_of (dfn c 4 (at_ := fun K => He.ga K "words_of") (x := "words_of") (qual := "words_of") (st := top 16) rfl) (He.glo_ok X G (fac c 10 (b := He.Fa.ok K (.glo "words_of")) rfl))
  d_expand := df_of (dfn c 5 (at_ := fun K => He.ga K "expand") (x := "expand") (qual := "expand") (st := top 17) rfl) (He.glo_ok X G (fac c 11 (b := He.Fa.ok K (.glo "expand")) rfl))
  d_words_of_entry := df_of (dfn c 6 (at_ := fun K => He.ga K "words_of_entry") (x := "words_of_entry") (qual := "words_of_entry") (st := top 18) rfl) (He.glo_ok X G (fac c 12 (b := He.Fa.ok K (.glo "words_of_entry")) rfl))
  d_is_live := df_of (dfn c 7 (at_ := fun K => He.ga K "is_live") (x := "is_live") (qual := "is_live") (st := top 19) rfl) (He.glo_ok X G (fac c 13 (b := He.Fa.ok K (.glo "is_live")) rfl))
  d_live_among := df_of (dfn c 8 (at_ := fun K => He.ga K "live_among") (x := "live_among") (qual := "live_among") (st := top 20) rfl) (He.glo_ok X G (fac c 14 (b := He.Fa.ok K (.glo "live_among")) rfl))
  d_in_order := df_of (dfn c 9 (at_ := fun K => He.ga K "in_order") (x := "in_order") (qual := "in_order") (st := top 22) rfl) (He.glo_ok X G (fac c 15 (b := He.Fa.ok K (.glo "in_order")) rfl))
  d_gathered_entries := df_of (dfn c 10 (at_ := fun K => He.ga K "gathered_entries") (x := "gathered_entries") (qual := "gathered_entries") (st := top 23) rfl) (He.glo_ok X G (fac c 16 (b := He.Fa.ok K (.glo "gathered_entries")) rfl))
  d_with_both := df_of (dfn c 11 (at_ := fun K => He.ga K "with_both") (x := "with_both") (qual := "with_both") (st := top 24) rfl) (He.glo_ok X G (fac c 17 (b := He.Fa.ok K (.glo "with_both")) rfl))
  d_entries_without := df_of (dfn c 12 (at_ := fun K => He.ga K "entries_without") (x := "entries_without") (qual := "entries_without") (st := top 25) rfl) (He.glo_ok X G (fac c 18 (b := He.Fa.ok K (.glo "entries_without")) rfl))
  d_shared_entries := df_of (dfn c 13 (at_ := fun K => He.ga K "shared_entries") (x := "shared_entries") (qual := "shared_entries") (st := top 26) rfl) (He.glo_ok X G (fac c 19 (b := He.Fa.ok K (.glo "shared_entries")) rfl))
  d_entries_of := df_of (dfn c 14 (at_ := fun K => He.ga K "entries_of") (x := "entries_of") (qual := "entries_of") (st := top 27) rfl) (He.glo_ok X G (fac c 20 (b := He.Fa.ok K (.glo "entries_of")) rfl))
  d_rule_lines := df_of (dfn c 15 (at_ := fun K => He.ga K "rule_lines") (x := "rule_lines") (qual := "rule_lines") (st := top 28) rfl) (He.glo_ok X G (fac c 21 (b := He.Fa.ok K (.glo "rule_lines")) rfl))
  d_checked_word := df_of (dfn c 16 (at_ := fun K => He.ga K "checked_word") (x := "checked_word") (qual := "checked_word") (st := top 32) rfl) (He.glo_ok X G (fac c 22 (b := He.Fa.ok K (.glo "checked_word")) rfl))
  d_all_promises := df_of (dfn c 17 (at_ := fun K => He.ga K "all_promises") (x := "all_promises") (qual := "all_promises") (st := top 34) rfl) (He.glo_ok X G (fac c 23 (b := He.Fa.ok K (.glo "all_promises")) rfl))
  d_can_move := df_of (dfn c 18 (at_ := fun K => He.ga K "can_move") (x := "can_move") (qual := "can_move") (st := top 35) rfl) (He.glo_ok X G (fac c 24 (b := He.Fa.ok K (.glo "can_move")) rfl))
  d_can_change := df_of (dfn c 19 (at_ := fun K => He.ga K "can_change") (x := "can_change") (qual := "can_change") (st := top 36) rfl) (He.glo_ok X G (fac c 25 (b := He.Fa.ok K (.glo "can_change")) rfl))
  d_harmful := df_of (dfn c 20 (at_ := fun K => He.ga K "harmful") (x := "harmful") (qual := "harmful") (st := top 37) rfl) (He.glo_ok X G (fac c 26 (b := He.Fa.ok K (.glo "harmful")) rfl))
  d_freest := df_of (dfn c 21 (at_ := fun K => He.ga K "freest") (x := "freest") (qual := "freest") (st := top 38) rfl) (He.glo_ok X G (fac c 27 (b := He.Fa.ok K (.glo "freest")) rfl))
  d_is_sound := df_of (dfn c 22 (at_ := fun K => He.ga K "is_sound") (x := "is_sound") (qual := "is_sound") (st := top 40) rfl) (He.glo_ok X G (fac c 28 (b := He.Fa.ok K (.glo "is_sound")) rfl))
  d_strongest := df_of (dfn c 23 (at_ := fun K => He.ga K "strongest") (x := "strongest") (qual := "strongest") (st := top 41) rfl) (He.glo_ok X G (fac c 29 (b := He.Fa.ok K (.glo "strongest")) rfl))
  d__law_begin := df_of (dfn c 24 (at_ := fun K => He.ga K "_law_begin") (x := "_law_begin") (qual := "_law_begin") (st := top 43) rfl) (He.glo_ok X G (fac c 30 (b := He.Fa.ok K (.glo "_law_begin")) rfl))
  d__law_draw := df_of (dfn c 25 (at_ := fun K => He.ga K "_law_draw") (x := "_law_draw") (qual := "_law_draw") (st := top 44) rfl) (He.glo_ok X G (fac c 31 (b := He.Fa.ok K (.glo "_law_draw")) rfl))
  d__law_pick := df_of (dfn c 26 (at_ := fun K => He.ga K "_law_pick") (x := "_law_pick") (qual := "_law_pick") (st := top 45) rfl) (He.glo_ok X G (fac c 32 (b := He.Fa.ok K (.glo "_law_pick")) rfl))
  d__law_same_row := df_of (dfn c 27 (at_ := fun K => He.ga K "_law_same_row") (x := "_law_same_row") (qual := "_law_same_row") (st := top 46) rfl) (He.glo_ok X G (fac c 33 (b := He.Fa.ok K (.glo "_law_same_row")) rfl))
  d__law_same := df_of (dfn c 28 (at_ := fun K => He.ga K "_law_same") (x := "_law_same") (qual := "_law_same") (st := top 47) rfl) (He.glo_ok X G (fac c 34 (b := He.Fa.ok K (.glo "_law_same")) rfl))
  d__law_standings := df_of (dfn c 29 (at_ := fun K => He.ga K "_law_standings") (x := "_law_standings") (qual := "_law_standings") (st := top 48) rfl) (He.glo_ok X G (fac c 35 (b := He.Fa.ok K (.glo "_law_standings")) rfl))
  d__law_deeds := df_of (dfn c 30 (at_ := fun K => He.ga K "_law_deeds") (x := "_law_deeds") (qual := "_law_deeds") (st := top 49) rfl) (He.glo_ok X G (fac c 36 (b := He.Fa.ok K (.glo "_law_deeds")) rfl))
  d__law_strong := df_of (dfn c 31 (at_ := fun K => He.ga K "_law_strong") (x := "_law_strong") (qual := "_law_strong") (st := top 50) rfl) (He.glo_ok X G (fac c 37 (b := He.Fa.ok K (.glo "_law_strong")) rfl))
  d__law_relations := df_of (dfn c 32 (at_ := fun K => He.ga K "_law_relations") (x := "_law_relations") (qual := "_law_relations") (st := top 51) rfl) (He.glo_ok X G (fac c 38 (b := He.Fa.ok K (.glo "_law_relations")) rfl))
  d__law_inverse := df_of (dfn c 33 (at_ := fun K => He.ga K "_law_inverse") (x := "_law_inverse") (qual := "_law_inverse") (st := top 52) rfl) (He.glo_ok X G (fac c 39 (b := He.Fa.ok K (.glo "_law_inverse")) rfl))
  d__law_entries := df_of (dfn c 34 (at_ := fun K => He.ga K "_law_entries") (x := "_law_entries") (qual := "_law_entries") (st := top 53) rfl) (He.glo_ok X G (fac c 40 (b := He.Fa.ok K (.glo "_law_entries")) rfl))
  d__law_harmful := df_of (dfn c 35 (at_ := fun K => He.ga K "_law_harmful") (x := "_law_harmful") (qual := "_law_harmful") (st := top 54) rfl) (He.glo_ok X G (fac c 41 (b := He.Fa.ok K (.glo "_law_harmful")) rfl))
  d__law_live := df_of (dfn c 36 (at_ := fun K => He.ga K "_law_live") (x := "_law_live") (qual := "_law_live") (st := top 55) rfl) (He.glo_ok X G (fac c 42 (b := He.Fa.ok K (.glo "_law_live")) rfl))
  d__law_some := df_of (dfn c 37 (at_ := fun K => He.ga K "_law_some") (x := "_law_some") (qual := "_law_some") (st := top 56) rfl) (He.glo_ok X G (fac c 43 (b := He.Fa.ok K (.glo "_law_some")) rfl))
  d__law_few := df_of (dfn c 38 (at_ := fun K => He.ga K "_law_few") (x := "_law_few") (qual := "_law_few") (st := top 57) rfl) (He.glo_ok X G (fac c 44 (b := He.Fa.ok K (.glo "_law_few")) rfl))
  d__law_grown := df_of (dfn c 39 (at_ := fun K => He.ga K "_law_grown") (x := "_law_grown") (qual := "_law_grown") (st := top 58) rfl) (He.glo_ok X G (fac c 45 (b := He.Fa.ok K (.glo "_law_grown")) rfl))
  d__law_rule := df_of (dfn c 40 (at_ := fun K => He.ga K "_law_rule") (x := "_law_rule") (qual := "_law_rule") (st := top 59) rfl) (He.glo_ok X G (fac c 46 (b := He.Fa.ok K (.glo "_law_rule")) rfl))
  d__law_drawn_entries := df_of (dfn c 41 (at_ := fun K => He.ga K "_law_drawn_entries") (x := "_law_drawn_entries") (qual := "_law_drawn_entries") (st := top 60) rfl) (He.glo_ok X G (fac c 47 (b := He.Fa.ok K (.glo "_law_drawn_entries")) rfl))
  d__law_best := df_of (dfn c 42 (at_ := fun K => He.ga K "_law_best") (x := "_law_best") (qual := "_law_best") (st := top 61) rfl) (He.glo_ok X G (fac c 48 (b := He.Fa.ok K (.glo "_law_best")) rfl))
  d__law_words_of := df_of (dfn c 43 (at_ := fun K => He.ga K "_law_words_of") (x := "_law_words_of") (qual := "_law_words_of") (st := top 62) rfl) (He.glo_ok X G (fac c 49 (b := He.Fa.ok K (.glo "_law_words_of")) rfl))
  d__law_weaker := df_of (dfn c 44 (at_ := fun K => He.ga K "_law_weaker") (x := "_law_weaker") (qual := "_law_weaker") (st := top 63) rfl) (He.glo_ok X G (fac c 50 (b := He.Fa.ok K (.glo "_law_weaker")) rfl))
  d__law_is_told := df_of (dfn c 45 (at_ := fun K => He.ga K "_law_is_told") (x := "_law_is_told") (qual := "_law_is_told") (st := top 64) rfl) (He.glo_ok X G (fac c 51 (b := He.Fa.ok K (.glo "_law_is_told")) rfl))
  d__law_combines := df_of (dfn c 46 (at_ := fun K => He.ga K "_law_combines") (x := "_law_combines") (qual := "_law_combines") (st := top 65) rfl) (He.glo_ok X G (fac c 52 (b := He.Fa.ok K (.glo "_law_combines")) rfl))
  d_law := df_of (dfn c 47 (at_ := fun K => He.ga K "law") (x := "law") (qual := "law") (st := top 66) rfl) (He.glo_ok X G (fac c 53 (b := He.Fa.ok K (.glo "law")) rfl))
  cR := He.ga K "Rule"
  g_cR := He.glo_ok X G (fac c 54 (b := He.Fa.ok K (.glo "Rule")) rfl)
  clR := (He.cls_ok (fac c 75 (b := He.Fa.ok K (.cls "Rule")) rfl))
  isR := isiB_ok (He.cls_ok (fac c 75 (b := He.Fa.ok K (.cls "Rule")) rfl)) (fac c 76 (b := isiB K (He.ga K "Rule")) rfl)
  nfR := (fac c 77 (b := notFirst K (He.ga K "Rule") (.ref (He.ga K "Rule"))) rfl)
  m_R_init := ini_of (dfn c 48 (at_ := fun K => He.ma K (He.ga K "Rule") "__init__") (x := "__init__") (qual := "Rule.__init__") (st := mem 29 1) rfl) (He.mkr_ok (fac c 78 (b := He.Fa.ok K (.mkr "Rule")) rfl))
  cP := He.ga K "Promise"
  g_cP := He.glo_ok X G (fac c 55 (b := He.Fa.ok K (.glo "Promise")) rfl)
  clP := (He.cls_ok (fac c 80 (b := He.Fa.ok K (.cls "Promise")) rfl))
  isP := isiB_ok (He.cls_ok (fac c 80 (b := He.Fa.ok K (.cls "Promise")) rfl)) (fac c 81 (b := isiB K (He.ga K "Promise")) rfl)
  nfP := (fac c 82 (b := notFirst K (He.ga K "Promise") (.ref (He.ga K "Promise"))) rfl)
  m_P_init := ini_of (dfn c 58 (at_ := fun K => He.ma K (He.ga K "Promise") "__init__") (x := "__init__") (qual := "Promise.__init__") (st := mem 33 1) rfl) (He.mkr_ok (fac c 83 (b := He.Fa.ok K (.mkr "Promise")) rfl))
  m_R_read := clm_of (dfn c 49 (at_ := fun K => He5.wf K (He.ga K "Rule") "classmethod" "read") (x := "read") (qual := "Rule.read") (st := mem 29 2) rfl) (fac c 79 (b := crdB K (He.ga K "Rule")) rfl) (fac c 92 (b := He5.wrapB K (He.ga K "Rule") "classmethod" "classmethod.__get__" "read") rfl) (fac c 93 (b := fnIn K (He5.wf K (He.ga K "Rule") "classmethod" "read")) rfl)
  m_R_full := stc_of (dfn c 50 (at_ := fun K => He5.wf K (He.ga K "Rule") "staticmethod" "full") (x := "full") (qual := "Rule.full") (st := mem 29 4) rfl) (fac c 79 (b := crdB K (He.ga K "Rule")) rfl) (fac c 94 (b := He5.wrapB K (He.ga K "Rule") "staticmethod" "staticmethod.__get__" "full") rfl)
  m_R_live := pgt_of (He.cls_ok (fac c 75 (b := He.Fa.ok K (.cls "Rule")) rfl)) (dfn c 51 (at_ := fun K => He5.wf K (He.ga K "Rule") "property" "live") (x := "live") (qual := "Rule.live") (st := mem 29 5) rfl) (proB_ok (fac c 95 (b := proB K (He.ga K "Rule") "live") rfl))
  m_R_setitem := opr_of (dfn c 54 (at_ := fun K => He.ma K (He.ga K "Rule") "__setitem__") (x := "__setitem__") (qual := "Rule.__setitem__") (st := mem 29 13) rfl) (opoB_ok (fac c 85 (b := opoB K (He.ga K "Rule") "__setitem__") rfl))
  m_R_or := opr_of (dfn c 55 (at_ := fun K => He.ma K (He.ga K "Rule") "__or__") (x := "__or__") (qual := "Rule.__or__") (st := mem 29 14) rfl) (opoB_ok (fac c 86 (b := opoB K (He.ga K "Rule") "__or__") rfl))
  m_R_ior := opr_of (dfn c 56 (at_ := fun K => He.ma K (He.ga K "Rule") "__ior__") (x := "__ior__") (qual := "Rule.__ior__") (st := mem 29 23) rfl) (opoB_ok (fac c 87 (b := opoB K (He.ga K "Rule") "__ior__") rfl))
  m_R_le := opr_of (dfn c 57 (at_ := fun K => He.ma K (He.ga K "Rule") "__le__") (x := "__le__") (qual := "Rule.__le__") (st := mem 29 26) rfl) (opoB_ok (fac c 88 (b := opoB K (He.ga K "Rule") "__le__") rfl))
  m_P_le := opr_of (dfn c 64 (at_ := fun K => He.ma K (He.ga K "Promise") "__le__") (x := "__le__") (qual := "Promise.__le__") (st := mem 33 10) rfl) (opoB_ok (fac c 89 (b := opoB K (He.ga K "Promise") "__le__") rfl))
  m_P_or := opr_of (dfn c 65 (at_ := fun K => He.ma K (He.ga K "Promise") "__or__") (x := "__or__") (qual := "Promise.__or__") (st := mem 33 11) rfl) (opoB_ok (fac c 90 (b := opoB K (He.ga K "Promise") "__or__") rfl))
  m_P_and := opr_of (dfn c 66 (at_ := fun K => He.ma K (He.ga K "Promise") "__and__") (x := "__and__") (qual := "Promise.__and__") (st := mem 33 12) rfl) (opoB_ok (fac c 91 (b := opoB K (He.ga K "Promise") "__and__") rfl))
  m_P_look := pgt_of (He.cls_ok (fac c 80 (b := He.Fa.ok K (.cls "Promise")) rfl)) (dfn c 59 (at_ := fun K => He5.wf K (He.ga K "Promise") "property" "look") (x := "look") (qual := "Promise.look") (st := mem 33 3) rfl) (proB_ok (fac c 96 (b := proB K (He.ga K "Promise") "look") rfl))
  m_P_slook := pst_of (dfn c 60 (at_ := fun K => wfs K (He.ga K "Promise") "look") (x := "look") (qual := "Promise.look") (st := mem 33 4) rfl) (prsB_ok (He.cls_ok (fac c 80 (b := He.Fa.ok K (.cls "Promise")) rfl)) (fac c 98 (b := prsB K (He.ga K "Promise") "look") rfl))
  m_P_reserved := pgt_of (He.cls_ok (fac c 80 (b := He.Fa.ok K (.cls "Promise")) rfl)) (dfn c 61 (at_ := fun K => He5.wf K (He.ga K "Promise") "property" "reserved") (x := "reserved") (qual := "Promise.reserved") (st := mem 33 5) rfl) (proB_ok (fac c 97 (b := proB K (He.ga K "Promise") "reserved") rfl))
  m_P_sreserved := pst_of (dfn c 62 (at_ := fun K => wfs K (He.ga K "Promise") "reserved") (x := "reserved") (qual := "Promise.reserved") (st := mem 33 6) rfl) (prsB_ok (He.cls_ok (fac c 80 (b := He.Fa.ok K (.cls "Promise")) rfl)) (fac c 99 (b := prsB K (He.ga K "Promise") "reserved") rfl))
  m_P_change := md_at (dfn c 63 (at_ := fun K => He.ma K (He.ga K "Promise") "change") (x := "change") (qual := "Promise.change") (st := mem 33 7) rfl) (He.meth_ok (fac c 100 (b := He.Fa.ok K (.meth "Promise" "change")) rfl)) (He.cls_ok (fac c 80 (b := He.Fa.ok K (.cls "Promise")) rfl))
  na_rows := He.noat_ok (fac c 101 (b := He.Fa.ok K (.noat "Rule" "_rows")) rfl)
  na_look := He.noat_ok (fac c 102 (b := He.Fa.ok K (.noat "Promise" "_look")) rfl)
  na_reserved := He.noat_ok (fac c 103 (b := He.Fa.ok K (.noat "Promise" "_reserved")) rfl)
  nsR := (fac c 104 (b := noSeq K (He.ga K "Rule")) rfl)
  it_R := itr_of (dfn c 53 (at_ := fun K => He.ma K (He.ga K "Rule") "__iter__") (x := "__iter__") (qual := "Rule.__iter__") (st := mem 29 9) rfl) (dfn c 52 (at_ := fun K => He.ma K (He.ga K "Rule") "__len__") (x := "__len__") (qual := "Rule.__len__") (st := mem 29 8) rfl) (itlB_ok (fac c 105 (b := itlB K (He.ga K "Rule")) rfl))
  k_RR := of_decide_eq_true (fac c 106 (b := decide (kitOne K (.ref (He.ga K "Rule")) (.ref (He.ga K "Rule")) = some true)) rfl)
  k_SR := of_decide_eq_true (fac c 107 (b := decide (kitOne K (.type "str") (.ref (He.ga K "Rule")) = some false)) rfl)
  k_PP := of_decide_eq_true (fac c 108 (b := decide (kitOne K (.ref (He.ga K "Promise")) (.ref (He.ga K "Promise")) = some true)) rfl)
  k_NP := of_decide_eq_true (fac c 109 (b := decide (kitOne K (.type "NoneType") (.ref (He.ga K "Promise")) = some false)) rfl)
  a_WORDS := wAd K
  cv_WORDS := ⟨crdB_ok (fac c 84 (b := crdB K (He.ga K "Promise")) rfl), wAdB_ok (fac c 110 (b := wAdB K) rfl), rel_ref⟩
  v_WORDS := sc_tup (fac c 73 (b := tupAt K (wAd K) (c_WORDS.map He.Dv.str)) rfl)
  n_len := He.free_ok X G (fac c 56 (b := He.Fa.ok K (.free "len")) rfl)
  n_any := He.free_ok X G (fac c 57 (b := He.Fa.ok K (.free "any")) rfl)
  n_all := He.free_ok X G (fac c 58 (b := He.Fa.ok K (.free "all")) rfl)
  n_int := He.free_ok X G (fac c 59 (b := He.Fa.ok K (.free "int")) rfl)
  n_list := He.free_ok X G (fac c 60 (b := He.Fa.ok K (.free "list")) rfl)
  n_range := He.free_ok X G (fac c 61 (b := He.Fa.ok K (.free "range")) rfl)
  n_isinstance := He.free_ok X G (fac c 62 (b := He.Fa.ok K (.free "isinstance")) rfl)
  n_enumerate := He.free_ok X G (fac c 63 (b := He.Fa.ok K (.free "enumerate")) rfl)
  n_str := He.free_ok X G (fac c 64 (b := He.Fa.ok K (.free "str")) rfl)
  n_bool := He.free_ok X G (fac c 65 (b := He.Fa.ok K (.free "bool")) rfl)
  n_iter := He.free_ok X G (fac c 66 (b := He.Fa.ok K (.free "iter")) rfl)
  n_tuple := He.free_ok X G (fac c 67 (b := He.Fa.ok K (.free "tuple")) rfl)
theorem binds_all {x qual : PySem.Str} {st : Stmt} {f : Addr} {fd : FuncData} {ps : List PySem.Str} (F : L2.Fun K x qual st f fd)
    (hb : ∀ (kV doc pm : Value) (an : Option Addr) (cdv ct : Value) (us : List Value), us.length = ps.length → bindArgs (fnOf x qual (L2.defArgs st) (L2.defBody st) (L2.defScope st) .none kV doc pm an cdv ct) ⟨us, []⟩ = pure (ps.zip us)) (s : Shared) (us : List Value) (hl : us.length = ps.length) : BindsTo s fd ⟨us, []⟩ (ps.zip us) := by
  obtain ⟨oc, od, kV, doc, pm, an, cdv, ct, osl, rfl, lk, hcd⟩ := F.ex
  exact .of_eq (hb kV doc pm an cdv ct us hl)
theorem paired_int {F : L2.Hp} : ∀ ns : List Int, Paired (tInt.rep F) (ns.map V.int) ns
  | [] => .nil
  | _ :: r => .cons rfl (paired_int r)
theorem sp_of {H : L2.Hp} {a : Addr} {ns : List Int} (hl : ns.length ≤ 63) (hS : SqL K H a (ns.map V.int)) : sp_law (K := K) [.ref a] H (fun v _ => v = .bl true) (fun _ _ _ => False) := by
  refine ⟨ns, H, [[]], hl, rfl, ⟨L2.Same.refl H, ⟨⟨rfl, .ref a, rfl, a, _, rfl, hS, paired_int ns⟩, trivial⟩, List.nodup_nil, fun p hp => nomatch hp⟩, fun v H' d => ?_⟩
  obtain ⟨F, x, _, e, r⟩ := d.d1
  cases e
  exact r
theorem facts {P : Program} {f : Addr} (X : K.In h) (G : h.Ns mainGlobals mg) (hfa : mg ("law" : PySem.Str) = some (.ref f)) (c : obsK K = valK w) :
    ∃ fd : FuncData, (∀ (s : Shared) (v : Value), BindsTo s fd ⟨[v], []⟩ [("script", v)]) ∧ ∀ base : Heap, K.In base → base.Ns mainGlobals mg → FnOk P w K mg base CX0 11 f fd ["script"] (sp_law (K := K)) := by
  obtain ⟨f', fd, F, g⟩ := (tx X G c).d_law.ex
  have e := hfa.symm.trans g
  cases e
  have b := binds_all F (ps := ["script"]) fun _ _ _ _ _ _ us hl => match us, hl with | [_], _ => rfl
  exact ⟨fd, fun s v => b s [v] rfl, fun base X' G' => ok_law (tx X' G' c) F⟩
end
end K79
open PySem PySem.W PySem.Calls PyProof.Rows
theorem PySem.Challenge.cw_fieldsandcalls_k79_whole_strongest_promi_holds : PySem.Challenge.rw_fieldsandcalls_k79_whole_strongest_promi.Holds := by
  w_on; o_law
  refine HandSHeadRun.head_any (r := OpenLaw.row PySem.Challenge.rw_fieldsandcalls_k79_whole_strongest_promi) (q := view (OpenLaw.row PySem.Challenge.rw_fieldsandcalls_k79_whole_strongest_promi).prog [66]) (H := K79.hk) (ob := K79.ob) (M := K79.steps) (loose := K79.loose) (d := HandSHeadRun.topDef (OpenLaw.row PySem.Challenge.rw_fieldsandcalls_k79_whole_strongest_promi).prog 66) (kwd := []) K79.ob_eq
    (by kernel_rfl) (fun s => by kernel_rfl) K79.run (by kernel_rfl) (by kernel_rfl) (by kernel_rfl) (by rfl) (by first | assumption | decide +kernel) (by decide +kernel) ⟨rfl, rfl, rfl, rfl, rfl, by decide +kernel⟩ ?hw ?hc
  case hw => w_witness2
  case hc =>
    refine L2.walk_ofE (l := PySem.Challenge.rw_fieldsandcalls_k79_whole_strongest_promi) (n := 63) (k := 11) (x := "script") (CX := L2.CX0) rfl (by decide) (by kernel_rfl) ⟨rfl, by decide, by decide⟩ ?F (fun _ _ _ _ z => z)
    intro w mg fa h Y G hmg0
    obtain ⟨K, KX, c⟩ := Y
    have hmg : mg ("law" : PySem.Str) = some (.ref fa) := by
      have e : (HandSHeadRun.topDef (OpenLaw.row PySem.Challenge.rw_fieldsandcalls_k79_whole_strongest_promi).prog 66).name = ("law" : PySem.Str) := by kernel_rfl
      rw [← e]
      exact hmg0
    obtain ⟨fd, hb, hF⟩ := K79.facts (P := (PySem.Challenge.rw_fieldsandcalls_k79_whole_strongest_promi).prog) (w := w) KX G hmg c
    exact ⟨K, fd, K79.sp_law (K := K), KX, hb, fun H a ns hl _ hS => K79.sp_of hl hS, hF⟩
