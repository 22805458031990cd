import PyProof.Rows.All
import Wide.All
import OpenK.AllK
import Wide.FinOn
import HandS.ForMost
import HandS.IsInst
import HandS.Wide
import HandS.Defaults
import HandS.Style
import HandS.SetFor
import HandS.Strs
import KE.KLam
import HandS.Lambda
import HandS.Conv
import HandS.Walk
import HandS.SortInts
import PyProof.ReprRoads
import HandS.WordsExc
import HandS.ExcIs
import HandS.TryOnly
import HandS.TupLe
import KE.LtSeq
import PyProof.AssignAttr
import HandS.TupAny
import HandS.More
import HandS.Deep
import PyProof.Rows.RuleB_pow
import HandS.HotCalls
import HandS.Dict
import HandS.EndTab
import KE.KNest
import PySem.Challenge.RW_roundsteps_k14_refused_rings
set_option Elab.async false
set_option linter.all false
set_option maxRecDepth 100000
set_option maxHeartbeats 4000000
/-! A logic of plain data over the hand layer: what a piece of the text makes of data, the heap unseen. -/
namespace DL
open PySem L2

/-- a lambda: its words, the cells that it captured -/
structure LF where
  qual : Str
  ps : Arguments
  body : Expr
  sc : Scope
  cl : List (Str × Addr)
/-- the lambda's object at f, its code object at c -/
def LamO (f : Addr) (L : LF) (c : Addr) : HO := .ext fun h => ∃ pm ctv : Value, h.get? f = some (PySem.W.kla_obj "<lambda>" L.qual L.ps L.body L.sc L.cl pm c ctv)
/-- plain data; lambdas; the empty dict -/
inductive D where
  | non | bl (b : Bool) | int (i : Int) | str (x : Str) | lst (xs : List D) | tup (xs : List D) | scr (ns : List Int) | val (v : V) | ins (C : Addr) (ns : List Str) (ds : List D) | fn (L : LF) | dct
abbrev D.ints (ns : List Int) : D := .lst (ns.map .int)

mutual
inductive Dt (K : PySem.W.Frag) (G : Hp) : V → D → Prop
  | non : Dt K G .non .non
  | bl (b : Bool) : Dt K G (.bl b) (.bl b)
  | int (i : Int) : Dt K G (.int i) (.int i)
  | str (x : Str) : Dt K G (.str x) (.str x)
  | lst {a : Addr} {xs : List V} {ds : List D} : G a = some (.lst xs) → DtAll K G xs ds → Dt K G (.ref a) (.lst ds)
  | tup {a : Addr} {xs : List V} {ds : List D} : G a = some (.tup xs) → DtAll K G xs ds → Dt K G (.ref a) (.tup ds)
  | scr {a : Addr} {ns : List Int} : SqL K G a (ns.map V.int) → Dt K G (.ref a) (.scr ns)
  | val (v : V) : Dt K G v (.val v)
  | ins {a dx C : Addr} {ns : List Str} {vs : List V} {ds : List D} : G a = some (.ins C dx (ns.zip vs)) → vs.length = ns.length → DtAll K G vs ds → Dt K G (.ref a) (.ins C ns ds)
  | fn {a c : Addr} {L : LF} : G a = some (LamO a L c) → G c = some (LamX.CodeO c L.qual) → Dt K G (.ref a) (.fn L)
  | dct {a : Addr} : G a = some (.dK []) → Dt K G (.ref a) .dct
inductive DtAll (K : PySem.W.Frag) (G : Hp) : List V → List D → Prop
  | nil : DtAll K G [] []
  | cons {v : V} {vs : List V} {d : D} {ds : List D} : Dt K G v d → DtAll K G vs ds → DtAll K G (v :: vs) (d :: ds)
end

section
variable {K : PySem.W.Frag} {G G' H H' : Hp}
mutual
theorem Dt.mono (e : Same G G') : ∀ (d : D) (v : V), Dt K G v d → Dt K G' v d
  | .non, _, h => by cases h; exact .non
  | .bl _, _, h => by cases h; exact .bl _
  | .int _, _, h => by cases h; exact .int _
  | .str _, _, h => by cases h; exact .str _
  | .lst ds, _, h => by
    cases h with
    | lst h1 h2 => exact .lst (e _ _ h1) (DtAll.mono e ds _ h2)
  | .tup ds, _, h => by
    cases h with
    | tup h1 h2 => exact .tup (e _ _ h1) (DtAll.mono e ds _ h2)
  | .scr _, _, h => by
    cases h with
    | scr h1 => exact .scr (e.seq h1)
  | .val _, _, h => by cases h; exact .val _
  | .ins _ _ ds, _, h => by
    cases h with
    | ins h1 h2 h3 => exact .ins (e _ _ h1) h2 (DtAll.mono e ds _ h3)
  | .fn _, _, h => by
    cases h with
    | fn h1 h2 => exact .fn (e _ _ h1) (e _ _ h2)
  | .dct, _, h => by
    cases h with
    | dct h1 => exact .dct (e _ _ h1)
theorem DtAll.mono (e : Same G G') : ∀ (ds : List D) (vs : List V), DtAll K G vs ds → DtAll K G' vs ds
  | [], _, h => by cases h; exact .nil
  | d :: ds, _, h => by
    cases h with
    | cons h1 h2 => exact .cons (Dt.mono e d _ h1) (DtAll.mono e ds _ h2)
end
theorem DtAll.len : ∀ {vs : List V} {ds : List D}, DtAll K G vs ds → vs.length = ds.length
  | _, _, .nil => rfl
  | _, _, .cons _ h => congrArg Nat.succ (DtAll.len h)
theorem DtAll.get : ∀ {vs : List V} {ds : List D} {i : Nat} {d : D}, DtAll K G vs ds → ds[i]? = some d → ∃ v, vs[i]? = some v ∧ Dt K G v d
  | _, _, _, _, .nil, e => by simp at e
  | _, _, 0, _, .cons h _, e => by simp at e; subst e; exact ⟨_, rfl, h⟩
  | _, _, i + 1, d, .cons _ t, e => by
    obtain ⟨v, h1, h2⟩ := DtAll.get (i := i) (d := d) t (by simpa using e)
    exact ⟨v, by simpa using h1, h2⟩
theorem DtAll.get' : ∀ {vs : List V} {ds : List D} {i : Nat} {v : V}, DtAll K G vs ds → vs[i]? = some v → ∃ d, ds[i]? = some d ∧ Dt K G v d
  | _, _, _, _, .nil, e => by simp at e
  | _, _, 0, _, .cons h _, e => by simp at e; subst e; exact ⟨_, rfl, h⟩
  | _, _, i + 1, v, .cons _ t, e => by
    obtain ⟨d, h1, h2⟩ := DtAll.get' (i := i) (v := v) t (by simpa using e)
    exact ⟨d, by simpa using h1, h2⟩
theorem DtAll.app : ∀ {vs ws : List V} {ds es : List D}, DtAll K G vs ds → DtAll K G ws es → DtAll K G (vs ++ ws) (ds ++ es)
  | _, _, _, _, .nil, h => h
  | _, _, _, _, .cons h t, h' => .cons h (DtAll.app t h')
theorem DtAll.set {v : V} {d : D} (h : Dt K G v d) : ∀ {vs : List V} {ds : List D} (i : Nat), DtAll K G vs ds → DtAll K G (vs.set i v) (ds.set i d)
  | _, _, _, .nil => .nil
  | _, _, 0, .cons _ t => .cons h t
  | _, _, i + 1, .cons q t => .cons q (DtAll.set h i t)
theorem DtAll.take : ∀ {vs : List V} {ds : List D} (n : Nat), DtAll K G vs ds → DtAll K G (vs.take n) (ds.take n)
  | _, _, 0, _ => .nil
  | _, _, _ + 1, .nil => .nil
  | _, _, n + 1, .cons h t => .cons h (DtAll.take n t)
theorem DtAll.drop : ∀ {vs : List V} {ds : List D} (n : Nat), DtAll K G vs ds → DtAll K G (vs.drop n) (ds.drop n)
  | _, _, 0, h => h
  | _, _, _ + 1, .nil => .nil
  | _, _, n + 1, .cons _ t => DtAll.drop n t
theorem DtAll.ints : ∀ (ns : List Int), DtAll K G (ns.map V.int) (ns.map D.int)
  | [] => .nil
  | n :: ns => .cons (.int n) (DtAll.ints ns)
theorem DtAll.ints_inv : ∀ {vs : List V} {ns : List Int}, DtAll K G vs (ns.map D.int) → vs = ns.map V.int
  | _, [], h => by cases h; rfl
  | _, n :: ns, h => by
    cases h with
    | cons h1 h2 => cases h1; rw [DtAll.ints_inv h2]; rfl
theorem DtAll.bls_inv : ∀ {vs : List V} {ns : List Bool}, DtAll K G vs (ns.map D.bl) → vs = ns.map V.bl
  | _, [], h => by cases h; rfl
  | _, n :: ns, h => by
    cases h with
    | cons h1 h2 => cases h1; rw [DtAll.bls_inv h2]; rfl
theorem DtAll.rep {vs : List V} {ds : List D} (h : DtAll K G vs ds) : ∀ k : Nat, DtAll K G (List.replicate k vs).flatten (List.replicate k ds).flatten
  | 0 => .nil
  | k + 1 => by
    rw [List.replicate_succ, List.replicate_succ, List.flatten_cons, List.flatten_cons]
    exact h.app (DtAll.rep h k)
theorem DtAll.dropLast : ∀ {vs : List V} {ds : List D}, DtAll K G vs ds → DtAll K G vs.dropLast ds.dropLast
  | _, _, .nil => .nil
  | _, _, .cons _ .nil => .nil
  | _, _, .cons h (.cons h2 t) => .cons h (DtAll.dropLast (.cons h2 t))
theorem DtAll.rev {vs : List V} {ds : List D} (h : DtAll K G vs ds) : DtAll K G vs.reverse ds.reverse := by
  induction ds generalizing vs with
  | nil => cases h; exact .nil
  | cons d ds ih =>
    cases h with
    | cons h1 h2 => rw [List.reverse_cons, List.reverse_cons]; exact (ih h2).app (.cons h1 .nil)
end

/-- a datum without an object -/
inductive Sc : D → Prop
  | non : Sc .non
  | bl {b : Bool} : Sc (.bl b)
  | int {i : Int} : Sc (.int i)
  | str {x : Str} : Sc (.str x)
  | val {v : V} : Sc (.val v)
theorem Sc.any {K : PySem.W.Frag} {G G' : Hp} {v : V} {d : D} (s : Sc d) (h : Dt K G v d) : Dt K G' v d := by
  cases s <;> cases h <;> constructor

/-! ### heaps: G what is known and stays, H all -/
structure Ext (G H G' H' : Hp) : Prop where
  g : Same G G'
  gh : Same G' H'
  h : Same H H'
  nw : ∀ a, H a ≠ none → G a = none → G' a = none
theorem Ext.refl {G H : Hp} (e : Same G H) : Ext G H G H := ⟨Same.refl G, e, Same.refl H, fun _ _ h => h⟩
theorem some_of {H H' : Hp} (e : Same H H') {a : Addr} (h : H a ≠ none) : H' a ≠ none := by
  cases q : H a with
  | none => exact absurd q h
  | some o => rw [e a o q]; exact fun z => by cases z
theorem Ext.trans {G H G1 H1 G2 H2 : Hp} (a : Ext G H G1 H1) (b : Ext G1 H1 G2 H2) : Ext G H G2 H2 :=
  ⟨a.g.trans b.g, b.gh, a.h.trans b.h, fun x h n => b.nw x (some_of a.h h) (a.nw x h n)⟩
theorem Same.new {H : Hp} {p : Addr} {o : HO} (h : H p = none) : Same H (upd H p o) := fun a u e => by
  rw [upd_ne (ne_of_none e h)]
  exact e
theorem Same.both {G H : Hp} {p : Addr} {o : HO} (e : Same G H) : Same (upd G p o) (upd H p o) := fun a u h => by
  by_cases q : a = p
  · subst q; rw [upd_same] at h ⊢; exact h
  · rw [upd_ne q] at h ⊢; exact e a u h
/-- a new thing, known -/
theorem Ext.new {G H : Hp} {p : Addr} {o : HO} (e : Same G H) (h : H p = none) : Ext G H (upd G p o) (upd H p o) :=
  ⟨Same.new (e.free h), Same.both e, Same.new h, fun a ha hg => by rw [upd_ne (fun q => ha (by rw [q]; exact h))]; exact hg⟩
/-- a new thing, ours alone -/
theorem Ext.newO {G H : Hp} {p : Addr} {o : HO} (e : Same G H) (h : H p = none) : Ext G H G (upd H p o) :=
  ⟨Same.refl G, e.trans (Same.new h), Same.new h, fun a ha hg => hg⟩
/-- what is new and ours becomes known -/
theorem Ext.tell {G H G' H' : Hp} {p : Addr} {o : HO} (e : Ext G H G' H') (n : H p = none) (h : G' p = none) (q : H' p = some o) : Ext G H (upd G' p o) H' :=
  ⟨e.g.trans (Same.new h), fun a u z => by
    by_cases w : a = p
    · subst w; rw [upd_same] at z; rw [q]; exact z
    · rw [upd_ne w] at z; exact e.gh a u z, e.h, fun a ha hg => by rw [upd_ne (fun w => ha (by rw [w]; exact n))]; exact e.nw a ha hg⟩

/-- a def's entry: the loaned addresses, what was known, all -/
structure Fr where
  L : List Addr
  G : Hp
  H : Hp
structure Ok (F : Fr) (G H : Hp) : Prop where
  g : Same F.G G
  gh : Same G H
  h : ∀ a o, F.H a = some o → a ∉ F.L → H a = some o
  nw : ∀ a, F.H a ≠ none → F.G a = none → G a = none
  ln : ∀ a, a ∈ F.L → H a ≠ none
theorem Ok.ne {F : Fr} {G H : Hp} (k : Ok F G H) {a : Addr} (h : F.H a ≠ none) : H a ≠ none := by
  by_cases q : a ∈ F.L
  · exact k.ln a q
  · cases z : F.H a with
    | none => exact absurd z h
    | some o => rw [k.h a o z q]; exact fun w => by cases w
theorem Ok.ext {F : Fr} {G H G' H' : Hp} (k : Ok F G H) (e : Ext G H G' H') : Ok F G' H' :=
  ⟨k.g.trans e.g, e.gh, fun a o h n => e.h a o (k.h a o h n), fun a h n => e.nw a (k.ne h) (k.nw a h n), fun a h => some_of e.h (k.ln a h)⟩

inductive Fld where
  | d (x : D) | o (xs : List D)
inductive Slot where
  | un | f (x : Fld) | ob (q : Option Addr) (C : Addr) (fs : List (Str × Fld)) | tp (fs : List (Str × Fld)) | ls (q : List Addr) (fs : List (Str × Fld)) | tb (P : Addr) (q : Str)
abbrev Slot.d (x : D) : Slot := .f (.d x)
abbrev Slot.o (xs : List D) : Slot := .f (.o xs)
abbrev Slot.i (n : Int) : Slot := .f (.d (.int n))
abbrev Slot.is (ns : List Int) : Slot := .f (.d (.ints ns))
section
variable (K : PySem.W.Frag) (G H : Hp)
def FldOk : Fld → V → List Addr → Prop
  | .d x, v, fp => fp = [] ∧ Dt K G v x
  | .o xs, v, fp => ∃ p vs, v = .ref p ∧ fp = [p] ∧ H p = some (.lst vs) ∧ DtAll K G vs xs
inductive FldsOk : List (Str × Fld) → List (Str × V) → List Addr → Prop
  | nil : FldsOk [] [] []
  | cons {n : Str} {x : Fld} {v : V} {fp fps : List Addr} {fs : List (Str × Fld)} {vs : List (Str × V)} : FldOk K G H x v fp → FldsOk fs vs fps → FldsOk ((n, x) :: fs) ((n, v) :: vs) (fp ++ fps)
def SlotOk : Slot → Option V → List Addr → Prop
  | .un, _, fp => fp = []
  | .f x, o, fp => ∃ v, o = some v ∧ FldOk K G H x v fp
  | .ob q C fs, o, fp => ∃ p dx vs fps, o = some (.ref p) ∧ fp = p :: fps ∧ H p = some (.ins C dx vs) ∧ FldsOk K G H fs vs fps ∧ ∀ a, q = some a → a = p
  | .tp fs, o, fp => ∃ p vs fps, o = some (.ref p) ∧ fp = p :: fps ∧ H p = some (.tup (vs.map Prod.snd)) ∧ FldsOk K G H fs vs fps
  | .ls q fs, o, fp => ∃ p vs fps, o = some (.ref p) ∧ fp = p :: fps ∧ H p = some (.lst (vs.map Prod.snd)) ∧ FldsOk K G H fs vs fps ∧ q <+: p :: fps
  | .tb P q, _, fp => fp = [P] ∧ ∃ ps : Array Value, H P = some (.tbl ps) ∧ TriplesOk ps.toList ∧ ∀ (pos : Pos) (cv : Value), codeAmong pos ps.toList = some cv → ∃ c, cv = .ref c ∧ G c = some (LamX.CodeO c q)
inductive Slots : List Slot → St → List Addr → Prop
  | nil : Slots [] [] []
  | cons {s : Slot} {v : Option V} {fp fps : List Addr} {r : List Slot} {t : St} : SlotOk K G H s v fp → Slots r t fps → Slots (s :: r) (v :: t) (fp ++ fps)
end
structure At (K : PySem.W.Frag) (F : Fr) (G : Hp) (r : List Slot) (t : St) (H : Hp) : Prop where
  ok : Ok F G H
  sl : ∃ fp, Slots K G H r t fp ∧ fp.Nodup ∧ ∀ a, a ∈ fp → G a = none ∧ (F.H a = none ∨ a ∈ F.L)

section
variable {K : PySem.W.Frag} {G G' H H' : Hp}
theorem FldOk.frame {x : Fld} {v : V} {fp : List Addr} (h : FldOk K G H x v fp) (e : Same G G') (k : ∀ a o, a ∈ fp → H a = some o → H' a = some o) : FldOk K G' H' x v fp := by
  cases x with
  | d x => exact ⟨h.1, Dt.mono e _ _ h.2⟩
  | o xs =>
    obtain ⟨p, vs, rfl, rfl, h1, h2⟩ := h
    exact ⟨p, vs, rfl, rfl, k p _ (by simp) h1, DtAll.mono e _ _ h2⟩
theorem FldOk.has {x : Fld} {v : V} {fp : List Addr} (h : FldOk K G H x v fp) : ∀ a, a ∈ fp → H a ≠ none := by
  cases x with
  | d x => intro a ha; rw [h.1] at ha; cases ha
  | o xs =>
    obtain ⟨p, vs, rfl, rfl, h1, h2⟩ := h
    intro a ha
    have e : a = p := by simpa using ha
    rw [e, h1]; exact fun z => by cases z
theorem FldsOk.frame {fs : List (Str × Fld)} {vs : List (Str × V)} {fp : List Addr} (h : FldsOk K G H fs vs fp) (e : Same G G') : (∀ a o, a ∈ fp → H a = some o → H' a = some o) → FldsOk K G' H' fs vs fp := by
  induction h with
  | nil => exact fun _ => .nil
  | cons h1 _ ih => exact fun k => .cons (h1.frame e fun a o ha => k a o (List.mem_append_left _ ha)) (ih fun a o ha => k a o (List.mem_append_right _ ha))
theorem FldsOk.has {fs : List (Str × Fld)} {vs : List (Str × V)} {fp : List Addr} (h : FldsOk K G H fs vs fp) : ∀ a, a ∈ fp → H a ≠ none := by
  induction h with
  | nil => intro a ha; cases ha
  | cons h1 _ ih =>
    intro a ha
    rcases List.mem_append.mp ha with z | z
    · exact h1.has a z
    · exact ih a z
theorem SlotOk.frame {s : Slot} {v : Option V} {fp : List Addr} (h : SlotOk K G H s v fp) (e : Same G G') (k : ∀ a o, a ∈ fp → H a = some o → H' a = some o) : SlotOk K G' H' s v fp := by
  cases s with
  | un => exact h
  | f x =>
    obtain ⟨v, rfl, h⟩ := h
    exact ⟨v, rfl, h.frame e k⟩
  | ob q C fs =>
    obtain ⟨p, dx, vs, fps, rfl, rfl, h1, h2, hq⟩ := h
    exact ⟨p, dx, vs, fps, rfl, rfl, k p _ (by simp) h1, h2.frame e fun a o ha => k a o (List.mem_cons_of_mem _ ha), hq⟩
  | tp fs =>
    obtain ⟨p, vs, fps, rfl, rfl, h1, h2⟩ := h
    exact ⟨p, vs, fps, rfl, rfl, k p _ (by simp) h1, h2.frame e fun a o ha => k a o (List.mem_cons_of_mem _ ha)⟩
  | ls q fs =>
    obtain ⟨p, vs, fps, rfl, rfl, h1, h2, hq⟩ := h
    exact ⟨p, vs, fps, rfl, rfl, k p _ (by simp) h1, h2.frame e fun a o ha => k a o (List.mem_cons_of_mem _ ha), hq⟩
  | tb P q =>
    obtain ⟨rfl, ps, h1, h2, h3⟩ := h
    refine ⟨rfl, ps, k P _ (by simp) h1, h2, fun pos cv hc => ?_⟩
    obtain ⟨c, e1, e2⟩ := h3 pos cv hc
    exact ⟨c, e1, e _ _ e2⟩
theorem SlotOk.has {s : Slot} {v : Option V} {fp : List Addr} (h : SlotOk K G H s v fp) : ∀ a, a ∈ fp → H a ≠ none := by
  cases s with
  | un => intro a ha; rw [show fp = [] from h] at ha; cases ha
  | f x =>
    obtain ⟨v, rfl, h⟩ := h
    exact h.has
  | ob q C fs =>
    obtain ⟨p, dx, vs, fps, rfl, rfl, h1, h2, hq⟩ := h
    intro a ha
    rcases List.mem_cons.mp ha with rfl | ha
    · rw [h1]; exact fun z => by cases z
    · exact h2.has a ha
  | tp fs =>
    obtain ⟨p, vs, fps, rfl, rfl, h1, h2⟩ := h
    intro a ha
    rcases List.mem_cons.mp ha with rfl | ha
    · rw [h1]; exact fun z => by cases z
    · exact h2.has a ha
  | ls q fs =>
    obtain ⟨p, vs, fps, rfl, rfl, h1, h2, hq⟩ := h
    intro a ha
    rcases List.mem_cons.mp ha with rfl | ha
    · rw [h1]; exact fun z => by cases z
    · exact h2.has a ha
  | tb P q =>
    obtain ⟨rfl, ps, h1, h2, h3⟩ := h
    intro a ha
    have e : a = P := by simpa using ha
    rw [e, h1]; exact fun z => by cases z
theorem Slots.frame {r : List Slot} {t : St} {fp : List Addr} (h : Slots K G H r t fp) (e : Same G G') : (∀ a o, a ∈ fp → H a = some o → H' a = some o) → Slots K G' H' r t fp := by
  induction h with
  | nil => exact fun _ => .nil
  | cons h1 _ ih => exact fun k => .cons (h1.frame e fun a o ha => k a o (List.mem_append_left _ ha)) (ih fun a o ha => k a o (List.mem_append_right _ ha))
theorem Slots.has {r : List Slot} {t : St} {fp : List Addr} (h : Slots K G H r t fp) : ∀ a, a ∈ fp → H a ≠ none := by
  induction h with
  | nil => intro a ha; cases ha
  | cons h1 _ ih =>
    intro a ha
    rcases List.mem_append.mp ha with z | z
    · exact h1.has a z
    · exact ih a z
theorem Slots.len {r : List Slot} {t : St} {fp : List Addr} (h : Slots K G H r t fp) : t.length = r.length := by
  induction h with
  | nil => rfl
  | cons _ _ ih => exact congrArg Nat.succ ih
/-- the slot i and the rest -/
theorem Slots.split {r : List Slot} {t : St} {fp : List Addr} (h : Slots K G H r t fp) : ∀ {i : Nat} {s : Slot}, r[i]? = some s → ∃ v fp1 fp0 fp2, t[i]? = some v ∧ fp = fp1 ++ (fp0 ++ fp2) ∧ SlotOk K G H s v fp0 ∧
    ∀ (G' H' : Hp) (s' : Slot) (v' : Option V) (fp' : List Addr), Same G G' → (∀ a o, a ∈ fp1 ++ fp2 → H a = some o → H' a = some o) → SlotOk K G' H' s' v' fp' → Slots K G' H' (r.set i s') (t.set i v') (fp1 ++ (fp' ++ fp2)) := by
  induction h with
  | nil => intro i s e; simp at e
  | @cons s0 v0 f0 fps r t h1 h2 ih =>
    intro i s e
    cases i with
    | zero =>
      have e' : s0 = s := by simpa using e
      subst e'
      exact ⟨v0, [], f0, fps, rfl, rfl, h1, fun G' H' s' v' fp' g k q => show Slots K G' H' (s' :: r) (v' :: t) (fp' ++ fps) from .cons q (h2.frame g fun a o ha => k a o (by simpa using ha))⟩
    | succ i =>
      obtain ⟨v, fp1, fp0, fp2, a1, a2, a3, a4⟩ := ih (i := i) (s := s) (by simpa using e)
      refine ⟨v, f0 ++ fp1, fp0, fp2, by simpa using a1, by rw [a2, List.append_assoc], a3, fun G' H' s' v' fp' g k q => ?_⟩
      have z := a4 G' H' s' v' fp' g (fun a o ha => k a o (by
        rcases List.mem_append.mp ha with w | w
        · exact List.mem_append_left _ (List.mem_append_right _ w)
        · exact List.mem_append_right _ w)) q
      have y := Slots.cons (h1.frame g fun a o ha => k a o (List.mem_append_left _ (List.mem_append_left _ ha))) z
      rw [List.append_assoc]
      exact y
variable {F : Fr} {r : List Slot} {t : St}
theorem At.ext (h : At K F G r t H) (e : Ext G H G' H') : At K F G' r t H' := by
  obtain ⟨k, fp, s, nd, fr⟩ := h
  exact ⟨k.ext e, fp, s.frame e.g fun a o _ q => e.h a o q, nd, fun a ha => ⟨e.nw a (s.has a ha) (fr a ha).1, (fr a ha).2⟩⟩
theorem At.gh (h : At K F G r t H) : Same G H := h.ok.gh
theorem nodup_mid {α : Type} {a b c d : List α} (h : (a ++ (b ++ c)).Nodup) (hd : d.Nodup) (n : ∀ x, x ∈ d → x ∉ a ∧ x ∉ c) : (a ++ (d ++ c)).Nodup := by
  rw [List.nodup_append] at h ⊢
  obtain ⟨h1, h2, h3⟩ := h
  rw [List.nodup_append] at h2 ⊢
  obtain ⟨h4, h5, h6⟩ := h2
  refine ⟨h1, ⟨hd, h5, fun x hx y hy e => (n x hx).2 (e ▸ hy)⟩, fun x hx y hy e => ?_⟩
  rcases List.mem_append.mp hy with z | z
  · exact (n y z).1 (e ▸ hx)
  · exact h3 x hx y (List.mem_append_right _ z) e
/-- a slot takes something else: its footprint new or empty -/
theorem At.put {i : Nat} {s s' : Slot} {v' : Option V} {fp' : List Addr} (h : At K F G r t H) (hi : r[i]? = some s) (q : SlotOk K G H s' v' fp') (nd : fp'.Nodup) (n : ∀ a, a ∈ fp' → G a = none ∧ F.H a = none ∧ ∀ fp, Slots K G H r t fp → a ∉ fp) :
    At K F G (r.set i s') (t.set i v') H := by
  obtain ⟨k, fp, sl, nd1, fr⟩ := h
  obtain ⟨v, fp1, fp0, fp2, a1, a2, a3, a4⟩ := sl.split hi
  have no : ∀ x, x ∈ fp' → x ∉ fp1 ∧ x ∉ fp2 := fun x hx => by
    have z := (n x hx).2.2 fp sl
    rw [a2] at z
    exact ⟨fun w => z (List.mem_append_left _ w), fun w => z (List.mem_append_right _ (List.mem_append_right _ w))⟩
  refine ⟨k, _, a4 G H s' v' fp' (Same.refl G) (fun _ _ _ w => w) q, nodup_mid (by rw [← a2]; exact nd1) nd no, fun a ha => ?_⟩
  rcases List.mem_append.mp ha with w | w
  · exact fr a (by rw [a2]; exact List.mem_append_left _ w)
  · rcases List.mem_append.mp w with w | w
    · exact ⟨(n a w).1, .inl (n a w).2.1⟩
    · exact fr a (by rw [a2]; exact List.mem_append_right _ (List.mem_append_right _ w))
theorem At.put0 {i : Nat} {s s' : Slot} {v' : Option V} (h : At K F G r t H) (hi : r[i]? = some s) (q : SlotOk K G H s' v' []) : At K F G (r.set i s') (t.set i v') H :=
  h.put hi q (by simp) fun a ha => by cases ha
theorem At.asg {i : Nat} {s : Slot} {v : V} {d : D} (h : At K F G r t H) (hi : r[i]? = some s) (q : Dt K G v d) : At K F G (r.set i (.d d)) (t.set i (some v)) H :=
  h.put0 hi ⟨v, rfl, rfl, q⟩
/-- a fresh thing of ours -/
theorem At.asgO {i : Nat} {s : Slot} {p : Addr} {vs : List V} {xs : List D} (h : At K F G r t H) (hi : r[i]? = some s) (e : Ext G H G' H') (n : H p = none) (g : G' p = none) (q : H' p = some (.lst vs)) (da : DtAll K G' vs xs) :
    At K F G' (r.set i (.o xs)) (t.set i (some (.ref p))) H' := by
  have fH : F.H p = none := by
    cases z : F.H p with
    | none => rfl
    | some o => exact absurd n (h.ok.ne (by rw [z]; exact fun w => by cases w))
  obtain ⟨fp0, sl0, _, _⟩ := h.sl
  refine (h.ext e).put hi ⟨.ref p, rfl, p, vs, rfl, rfl, q, da⟩ (by simp) fun a ha => ?_
  have ea : a = p := by simpa using ha
  subst ea
  refine ⟨g, fH, fun fp sl hm => ?_⟩
  -- the old slots' footprints stand in H
  have key : ∀ {r : List Slot} {t : St} {fp fp0 : List Addr}, Slots K G' H' r t fp → Slots K G H r t fp0 → a ∈ fp → a ∈ fp0 := by
    intro r t fp fp0 s1 s2 hm
    exact Slots.same_fp s1 s2 e.h ▸ hm
  exact sl0.has a (key sl sl0 hm) n
where
  Slots.same_fp : ∀ {r : List Slot} {t : St} {fp fp0 : List Addr}, Slots K G' H' r t fp → Slots K G H r t fp0 → Same H H' → fp = fp0 := by
    intro r t fp fp0 s1 s2 e
    induction s2 generalizing fp with
    | nil => cases s1; rfl
    | cons h1 _ ih =>
      cases s1 with
      | cons g1 g2 => rw [ih g2, slot_fp g1 h1 e]
  slot_fp : ∀ {s : Slot} {v : Option V} {fp fp0 : List Addr}, SlotOk K G' H' s v fp → SlotOk K G H s v fp0 → Same H H' → fp = fp0 := by
    intro s v fp fp0 s1 s2 e
    cases s with
    | un => rw [show fp = [] from s1, show fp0 = [] from s2]
    | f x =>
      obtain ⟨v1, rfl, q1⟩ := s1
      obtain ⟨v2, z, q2⟩ := s2
      cases z
      exact fld_fp q1 q2
    | ob qa C fs =>
      obtain ⟨p1, dx1, vs1, f1, rfl, rfl, a1, b1, _⟩ := s1
      obtain ⟨p2, dx2, vs2, f2, z, rfl, a2, b2, _⟩ := s2
      cases z
      have a3 := e _ _ a2
      rw [a1] at a3
      cases a3
      rw [flds_fp b1 b2]
    | tp fs =>
      obtain ⟨p1, vs1, f1, rfl, rfl, a1, b1⟩ := s1
      obtain ⟨p2, vs2, f2, z, rfl, a2, b2⟩ := s2
      cases z
      have a3 := e _ _ a2
      rw [a1] at a3
      rw [flds_fp2 b1 b2 (HO.tup.inj (Option.some.inj a3))]
    | ls q fs =>
      obtain ⟨p1, vs1, f1, rfl, rfl, a1, b1, _⟩ := s1
      obtain ⟨p2, vs2, f2, z, rfl, a2, b2, _⟩ := s2
      cases z
      have a3 := e _ _ a2
      rw [a1] at a3
      rw [flds_fp2 b1 b2 (HO.lst.inj (Option.some.inj a3))]
    | tb P q => rw [s1.1, s2.1]
  flds_fp2 : ∀ {fs : List (Str × Fld)} {vs ws : List (Str × V)} {fp fp0 : List Addr}, FldsOk K G' H' fs vs fp → FldsOk K G H fs ws fp0 → vs.map Prod.snd = ws.map Prod.snd → fp = fp0 := by
    intro fs vs ws fp fp0 s1 s2 e
    induction s2 generalizing vs fp with
    | nil => cases s1; rfl
    | cons h1 _ ih =>
      cases s1 with
      | cons g1 g2 =>
        rw [List.map_cons, List.map_cons] at e
        obtain ⟨e1, e2⟩ := List.cons.inj e
        have e1' : _ = _ := e1
        subst e1'
        rw [ih g2 e2, fld_fp g1 h1]
  fld_fp : ∀ {x : Fld} {v : V} {fp fp0 : List Addr}, FldOk K G' H' x v fp → FldOk K G H x v fp0 → fp = fp0 := by
    intro x v fp fp0 q1 q2
    cases x with
    | d x => rw [q1.1, q2.1]
    | o xs =>
      obtain ⟨p1, _, rfl, rfl, _⟩ := q1
      obtain ⟨p2, _, z, rfl, _⟩ := q2
      cases z
      rfl
  flds_fp : ∀ {fs : List (Str × Fld)} {vs : List (Str × V)} {fp fp0 : List Addr}, FldsOk K G' H' fs vs fp → FldsOk K G H fs vs fp0 → fp = fp0 := by
    intro fs vs fp fp0 s1 s2
    induction s2 generalizing fp with
    | nil => cases s1; rfl
    | cons h1 _ ih =>
      cases s1 with
      | cons g1 g2 => rw [ih g2, fld_fp g1 h1]
end
end DL

/-! Part 2: the judgements; expressions. -/
namespace DL
open PySem L2

/-! ### what a piece of the text asks, itself -/
section
variable {X : Cx}
@[irreducible] def tE (X : Cx) (e : Expr) : TE := fun t H Q => ∀ (pins : List (Addr × Obj)) (s : Shared), Inv X pins t H s → wpAny (model X.prog X.w) X.A (eval e X.env) (EP X pins t Q) X.xe s
@[irreducible] def tT (X : Cx) (e : Expr) : TT := fun t H Q => ∀ (pins : List (Addr × Obj)) (s : Shared), Inv X pins t H s → wpAny (model X.prog X.w) X.A (isTrue e X.env (eval e X.env)) (TP X pins t Q) X.xe s
@[irreducible] def tAr (X : Cx) (es : List Expr) : TA := fun t H Q => ∀ (pos : Pos) (pins : List (Addr × Obj)) (s : Shared), Inv X pins t H s → wpAny (model X.prog X.w) X.A (spliced (backTo pos (starEach es X.env))) (AP X pins t Q) X.xe s
@[irreducible] def tS (X : Cx) (st : Stmt) : TS := fun D t H => ∀ (pins : List (Addr × Obj)) (s : Shared), Inv X pins t H s → wpAny (model X.prog X.w) X.A (exec st X.env) (SP X pins D) X.xe s
@[irreducible] def tSs (X : Cx) (st : List Stmt) : TS := fun D t H => ∀ (pins : List (Addr × Obj)) (s : Shared), Inv X pins t H s → wpAny (model X.prog X.w) X.A (execs st X.env) (SP X pins D) X.xe s
theorem cE {e : Expr} : PE X e (tE X e) := ⟨fun pins s _ _ _ I h => by unfold tE at h; exact h pins s I⟩
theorem cT {e : Expr} : PT X e (tT X e) := ⟨fun pins s _ _ _ I h => by unfold tT at h; exact h pins s I⟩
theorem cA {es : List Expr} : PA X es (tAr X es) := ⟨fun pos pins s _ _ _ I h => by unfold tAr at h; exact h pos pins s I⟩
theorem cS {st : Stmt} : PS X st (tS X st) := ⟨fun pins s _ _ _ I h => by unfold tS at h; exact h pins s I⟩
theorem cSs {st : List Stmt} : PSs X st (tSs X st) := ⟨fun pins s _ _ _ I h => by unfold tSs at h; exact h pins s I⟩
theorem oE {e : Expr} {t : TE} (h : PE X e t) {u : St} {H : Hp} {Q : VK} (q : t u H Q) : tE X e u H Q := by unfold tE; exact fun pins s I => h.run pins s u H Q I q
theorem oT {e : Expr} {t : TT} (h : PT X e t) {u : St} {H : Hp} {Q : Bool → Hp → Prop} (q : t u H Q) : tT X e u H Q := by unfold tT; exact fun pins s I => h.run pins s u H Q I q
theorem oA {es : List Expr} {t : TA} (h : PA X es t) {u : St} {H : Hp} {Q : List V → Hp → Prop} (q : t u H Q) : tAr X es u H Q := by unfold tAr; exact fun pos pins s I => h.run pos pins s u H Q I q
theorem oS {st : Stmt} {t : TS} (h : PS X st t) {D : Ends} {u : St} {H : Hp} (q : t D u H) : tS X st D u H := by unfold tS; exact fun pins s I => h.run pins s u H D I q
theorem oSs {st : List Stmt} {t : TS} (h : PSs X st t) {D : Ends} {u : St} {H : Hp} (q : t D u H) : tSs X st D u H := by unfold tSs; exact fun pins s I => h.run pins s u H D I q
end

/-! ### the judgements -/
/-- the value may be kept -/
def PP (X : Cx) (r : List Slot) (e : Expr) (d : D) : Prop := ∀ (F : Fr) (G : Hp) (t : St) (H : Hp), At X.K F G r t H → ∀ Q : VK, (∀ v G' H', Ext G H G' H' → Dt X.K G' v d → Q v H') → tE X e t H Q
/-- the value is looked at -/
def PB (X : Cx) (r : List Slot) (e : Expr) (d : D) : Prop := ∀ (F : Fr) (G : Hp) (t : St) (H : Hp), At X.K F G r t H → ∀ Q : VK, (∀ v G' H', Ext G H G' H' → Dt X.K H' v d → Q v H') → tE X e t H Q
/-- a new list, ours -/
def PO (X : Cx) (r : List Slot) (e : Expr) (xs : List D) : Prop := ∀ (F : Fr) (G : Hp) (t : St) (H : Hp), At X.K F G r t H → ∀ Q : VK,
  (∀ p vs G' H', Ext G H G' H' → H p = none → G' p = none → H' p = some (.lst vs) → DtAll X.K G' vs xs → Q (.ref p) H') → tE X e t H Q
def TQ (X : Cx) (r : List Slot) (e : Expr) (b : Bool) : Prop := ∀ (F : Fr) (G : Hp) (t : St) (H : Hp), At X.K F G r t H → ∀ Q : Bool → Hp → Prop, (∀ G' H', Ext G H G' H' → Q b H') → tT X e t H Q
def AQ (X : Cx) (r : List Slot) (es : List Expr) (ds : List D) : Prop := ∀ (F : Fr) (G : Hp) (t : St) (H : Hp), At X.K F G r t H → ∀ Q : List V → Hp → Prop, (∀ vs G' H', Ext G H G' H' → DtAll X.K G' vs ds → Q vs H') → tAr X es t H Q
def AB (X : Cx) (r : List Slot) (es : List Expr) (ds : List D) : Prop := ∀ (F : Fr) (G : Hp) (t : St) (H : Hp), At X.K F G r t H → ∀ Q : List V → Hp → Prop, (∀ vs G' H', Ext G H G' H' → DtAll X.K H' vs ds → Q vs H') → tAr X es t H Q

section
variable {X : Cx} {r : List Slot} {e a b c : Expr} {es : List Expr} {pos p : Pos} {d d1 d2 : D} {ds xs ys : List D} {i j : Int} {x : Str}
theorem pb (h : PP X r e d) : PB X r e d := fun F G t H A Q q => h F G t H A Q fun v G' H' e k => q v G' H' e (Dt.mono e.gh _ _ k)
theorem pp_o (h : PO X r e xs) : PP X r e (.lst xs) := fun F G t H A Q q => h F G t H A Q fun p vs G' H' e n g k da =>
  q _ (upd G' p (.lst vs)) H' (e.tell n g k) (.lst upd_same (DtAll.mono (Same.new g) _ _ da))
theorem pb_o (h : PO X r e xs) : PB X r e (.lst xs) := pb (pp_o h)
theorem pp_s (h : PB X r e d) (s : Sc d := by constructor) : PP X r e d := fun F G t H A Q q => h F G t H A Q fun v G' H' e k => q v G' H' e (s.any k)
theorem pp_is (h : PP X r e d) (q : d = d1) : PP X r e d1 := q ▸ h
theorem pb_is (h : PB X r e d) (q : d = d1) : PB X r e d1 := q ▸ h
theorem po_is (h : PO X r e xs) (q : xs = ys) : PO X r e ys := q ▸ h
theorem tq_is {k k' : Bool} (h : TQ X r e k) (q : k = k') : TQ X r e k' := q ▸ h

/-! names -/
theorem at_d {F : Fr} {G : Hp} {t : St} {H : Hp} {i : Nat} (A : At X.K F G r t H) (h : r[i]? = some (.d d)) : ∃ v, t[i]? = some (some v) ∧ Dt X.K G v d := by
  obtain ⟨fp, sl, _, _⟩ := A.sl
  obtain ⟨v, _, _, _, h1, _, h2, _⟩ := sl.split h
  obtain ⟨v, rfl, _, k⟩ := h2
  exact ⟨v, h1, k⟩
theorem at_o {F : Fr} {G : Hp} {t : St} {H : Hp} {i : Nat} (A : At X.K F G r t H) (h : r[i]? = some (.o xs)) : ∃ p vs, t[i]? = some (some (.ref p)) ∧ H p = some (.lst vs) ∧ DtAll X.K G vs xs := by
  obtain ⟨fp, sl, _, _⟩ := A.sl
  obtain ⟨v, _, _, _, h1, _, h2, _⟩ := sl.split h
  obtain ⟨v, rfl, p, vs, rfl, _, k1, k2⟩ := h2
  exact ⟨p, vs, h1, k1, k2⟩
theorem pp_v (i : Nat) (h : r[i]? = some (.d d) := by rfl) (hN : X.N[i]? = some x := by rfl) (hv : Vis X.env.scope x := by first | exact Or.inl rfl | exact Or.inr (Or.inl rfl) | exact Or.inr (Or.inr rfl)) (hd : (x == ("__debug__" : Str)) = false := by decide)
    (hcd : (x == ("__classdict__" : Str)) = false := by decide) : PP X r (.Name x pos) d := fun F G t H A Q q => by
  obtain ⟨v, h1, h2⟩ := at_d A h
  exact oE (pe_var hN hv hd hcd) ⟨v, h1, q v G H (Ext.refl A.gh) h2⟩
theorem pb_v (i : Nat) (h : r[i]? = some (.d d) := by rfl) (hN : X.N[i]? = some x := by rfl) (hv : Vis X.env.scope x := by first | exact Or.inl rfl | exact Or.inr (Or.inl rfl) | exact Or.inr (Or.inr rfl)) (hd : (x == ("__debug__" : Str)) = false := by decide)
    (hcd : (x == ("__classdict__" : Str)) = false := by decide) : PB X r (.Name x pos) d := pb (pp_v i h hN hv hd hcd)
theorem pb_w (i : Nat) (h : r[i]? = some (.o xs) := by rfl) (hN : X.N[i]? = some x := by rfl) (hv : Vis X.env.scope x := by first | exact Or.inl rfl | exact Or.inr (Or.inl rfl) | exact Or.inr (Or.inr rfl)) (hd : (x == ("__debug__" : Str)) = false := by decide)
    (hcd : (x == ("__classdict__" : Str)) = false := by decide) : PB X r (.Name x pos) (.lst xs) := fun F G t H A Q q => by
  obtain ⟨p, vs, h1, h2, h3⟩ := at_o A h
  exact oE (pe_var hN hv hd hcd) ⟨_, h1, q _ G H (Ext.refl A.gh) (.lst h2 (DtAll.mono A.gh _ _ h3))⟩
/-- a value that stands by itself -/
theorem pp_c {v : V} (h : PE X e (tC v)) (k : ∀ G, Dt X.K G v d) : PP X r e d := fun F G t H A Q q => oE h (q v G H (Ext.refl A.gh) (k G))
theorem pp_n {k : Nat} : PP X r (.Constant (.int i) k pos) (.int i) := pp_c pe_int fun _ => .int i
theorem pp_b {z : Bool} {k : Nat} : PP X r (.Constant (.bool z) k pos) (.bl z) := pp_c pe_bl fun _ => .bl z
theorem pp_N {k : Nat} : PP X r (.Constant .none k pos) .non := pp_c pe_non fun _ => .non
theorem pp_t {z : Str} {k : Nat} : PP X r (.Constant (.str z) k pos) (.str z) := pp_c pe_str fun _ => .str z
theorem pb_n {k : Nat} : PB X r (.Constant (.int i) k pos) (.int i) := pb pp_n
theorem pb_b {z : Bool} {k : Nat} : PB X r (.Constant (.bool z) k pos) (.bl z) := pb pp_b
theorem pb_N {k : Nat} : PB X r (.Constant .none k pos) .non := pb pp_N
theorem pb_t {z : Str} {k : Nat} : PB X r (.Constant (.str z) k pos) (.str z) := pb pp_t
/-- a constant of the module -/
theorem pp_g {u : Value} {n : Int} (hm : X.mg x = some u) (hu : ∃ t, u = .int n t) (hg : Gl X x := by rfl) (hd : (x == ("__debug__" : Str)) = false := by decide) : PP X r (.Name x pos) (.int n) := pp_c (pe_glob (v := .int n) hg hm hu hd) fun _ => .int n
theorem pb_g {u : Value} {n : Int} (hm : X.mg x = some u) (hu : ∃ t, u = .int n t) (hg : Gl X x := by rfl) (hd : (x == ("__debug__" : Str)) = false := by decide) : PB X r (.Name x pos) (.int n) := pb (pp_g hm hu hg hd)
theorem pp_gr {f : Addr} (hm : X.mg x = some (.ref f)) (hg : Gl X x := by rfl) (hd : (x == ("__debug__" : Str)) = false := by decide) : PP X r (.Name x pos) (.val (.ref f)) := pp_c (pe_glob (v := .ref f) hg hm rfl hd) fun _ => .val _
theorem pp_ty {T : String} (hm : X.mg x = none) (hv : bootBuiltins x = some (.type T)) (hg : Gl X x := by rfl) (hn : x ≠ "__name__" := by decide) (hd : (x == ("__debug__" : Str)) = false := by decide) : PP X r (.Name x pos) (.val (.ty T)) := pp_c (pe_bltn (v := .ty T) hg hm hv rfl hn hd) fun _ => .val _

/-! two in a row -/
theorem two {R : V → V → Hp → Prop} {F : Fr} {G : Hp} {t : St} {H : Hp} (A : At X.K F G r t H) (ha : PB X r a d1) (hb : PB X r b d2)
    (h : ∀ v w G' H', Ext G H G' H' → Dt X.K H' v d1 → Dt X.K H' w d2 → R v w H') : tE X a t H fun v H1 => tE X b t H1 fun w H2 => R v w H2 :=
  ha F G t H A _ fun v G1 H1 e1 k1 => hb F G1 t H1 (A.ext e1) _ fun w G2 H2 e2 k2 => h v w G2 H2 (e1.trans e2) (Dt.mono e2.h _ _ k1) k2
theorem twoP {R : V → V → Hp → Prop} {F : Fr} {G : Hp} {t : St} {H : Hp} (A : At X.K F G r t H) (ha : PP X r a d1) (hb : PP X r b d2)
    (h : ∀ v w G' H', Ext G H G' H' → Dt X.K G' v d1 → Dt X.K G' w d2 → R v w H') : tE X a t H fun v H1 => tE X b t H1 fun w H2 => R v w H2 :=
  ha F G t H A _ fun v G1 H1 e1 k1 => hb F G1 t H1 (A.ext e1) _ fun w G2 H2 e2 k2 => h v w G2 H2 (e1.trans e2) (Dt.mono e2.g _ _ k1) k2
/-- an operation on looked-at values whose answer stands by itself -/
theorem pb_op2 {rl : R2} {v : V} (ho : PE X e (tOp rl (tE X a) (tE X b))) (ha : PB X r a d1) (hb : PB X r b d2)
    (hr : ∀ v1 v2 H Q, Dt X.K H v1 d1 → Dt X.K H v2 d2 → Q v H → rl v1 v2 H Q) (k : ∀ G, Dt X.K G v d) : PB X r e d := fun F G t H A Q q =>
  oE ho (two A ha hb fun v1 v2 G' H' e k1 k2 => hr v1 v2 H' Q k1 k2 (q v G' H' e (k H')))
theorem pb_ii {g : Int → Int → Int} (ho : PE X e (tOp (rI0 fun i j => .int (g i j)) (tE X a) (tE X b))) (ha : PB X r a (.int i)) (hb : PB X r b (.int j)) : PB X r e (.int (g i j)) :=
  pb_op2 (v := .int (g i j)) ho ha hb (fun v1 v2 H Q k1 k2 q => by cases k1; cases k2; exact ⟨i, j, rfl, rfl, q⟩) fun _ => .int _
theorem pb_iic {C : Int → Int → Prop} {g : Int → Int → Int} (ho : PE X e (tOp (rI C fun i j => .int (g i j)) (tE X a) (tE X b))) (ha : PB X r a (.int i)) (hb : PB X r b (.int j)) (hc : C i j) : PB X r e (.int (g i j)) :=
  pb_op2 (v := .int (g i j)) ho ha hb (fun v1 v2 H Q k1 k2 q => by cases k1; cases k2; exact ⟨i, j, rfl, rfl, hc, q⟩) fun _ => .int _
theorem pb_iib {g : Int → Int → Bool} (ho : PE X e (tOp (rI0 fun i j => .bl (g i j)) (tE X a) (tE X b))) (ha : PB X r a (.int i)) (hb : PB X r b (.int j)) : PB X r e (.bl (g i j)) :=
  pb_op2 (v := .bl (g i j)) ho ha hb (fun v1 v2 H Q k1 k2 q => by cases k1; cases k2; exact ⟨i, j, rfl, rfl, q⟩) fun _ => .bl _
theorem pb_add (ha : PB X r a (.int i)) (hb : PB X r b (.int j)) : PB X r (.BinOp a .Add b pos) (.int (i + j)) := pb_ii (pe_op op_add cE cE) ha hb
theorem pb_sub (ha : PB X r a (.int i)) (hb : PB X r b (.int j)) : PB X r (.BinOp a .Sub b pos) (.int (i - j)) := pb_ii (pe_op op_sub cE cE) ha hb
theorem pb_mul (ha : PB X r a (.int i)) (hb : PB X r b (.int j)) (hc : CMul i j) : PB X r (.BinOp a .Mult b pos) (.int (i * j)) := pb_iic (pe_op op_mul cE cE) ha hb hc
theorem pb_mulW (ha : PB X r a (.int i)) (hb : PB X r b (.int j)) (hc : CMulW i j) : PB X r (.BinOp a .Mult b pos) (.int (i * j)) := pb_iic (pe_op op_mulW cE cE) ha hb hc
theorem pb_div (ha : PB X r a (.int i)) (hb : PB X r b (.int j)) (hc : CDiv i j) : PB X r (.BinOp a .FloorDiv b pos) (.int (i / j)) := pb_iic (pe_op op_fdiv cE cE) ha hb hc
theorem pb_mod (ha : PB X r a (.int i)) (hb : PB X r b (.int j)) (hc : 0 < j) : PB X r (.BinOp a .Mod b pos) (.int (i % j)) := pb_iic (pe_op op_mod cE cE) ha hb hc
theorem pb_pow (ha : PB X r a (.int i)) (hb : PB X r b (.int j)) (hc : CPow i j) : PB X r (.BinOp a .Pow b pos) (.int (i ^ j.toNat)) := pb_iic (pe_op op_pow cE cE) ha hb hc
theorem pb_shl (ha : PB X r a (.int i)) (hb : PB X r b (.int j)) (hc : CPow i j) : PB X r (.BinOp a .LShift b pos) (.int (i * 2 ^ j.toNat)) := pb_iic (g := fun i j => i * 2 ^ j.toNat) (pe_op op_shl cE cE) ha hb hc
theorem pb_shr (ha : PB X r a (.int i)) (hb : PB X r b (.int j)) (hc : 0 ≤ j) : PB X r (.BinOp a .RShift b pos) (.int (i / 2 ^ j.toNat)) := pb_iic (g := fun i j => i / 2 ^ j.toNat) (pe_op op_shr cE cE) ha hb hc
theorem pb_band (ha : PB X r a (.int i)) (hb : PB X r b (.int j)) : PB X r (.BinOp a .BitAnd b pos) (.int (Builtin.bitAnd i j)) := pb_ii (pe_op op_and cE cE) ha hb
theorem pb_bor (ha : PB X r a (.int i)) (hb : PB X r b (.int j)) : PB X r (.BinOp a .BitOr b pos) (.int (Builtin.bitOr i j)) := pb_ii (pe_op op_or cE cE) ha hb
theorem pb_neg (ha : PB X r a (.int i)) : PB X r (.UnaryOp .USub a pos) (.int (-i)) := fun F G t H A Q q =>
  oE (pe_un un_neg cE) (ha F G t H A _ fun v G' H' e k => by cases k; exact ⟨i, rfl, q _ G' H' e (.int _)⟩)
/-- a comparison by what its two sides are -/
def CR (X : Cx) (op : CmpOp) (d1 d2 : D) (k : Bool) : Prop := ∃ rl : R2, OpR X (compareOp op) rl ∧ ∀ v1 v2 H (Q : VK), Dt X.K H v1 d1 → Dt X.K H v2 d2 → Q (.bl k) H → rl v1 v2 H Q
theorem pb_cmp {op : CmpOp} {k : Bool} (h : CR X op d1 d2 k) (ha : PB X r a d1) (hb : PB X r b d2) (hm : behindInMarks op b = false := by first | exact nomark _ | rfl) : PB X r (.Compare a [op] [b] pos) (.bl k) := by
  obtain ⟨rl, ho, hr⟩ := h
  exact pb_op2 (v := .bl k) (pe_cmpR ho cE cE hm) ha hb hr fun _ => .bl _
theorem tq_cmp {op : CmpOp} {k : Bool} (h : CR X op d1 d2 k) (ha : PB X r a d1) (hb : PB X r b d2) (hm : behindInMarks op b = false := by first | exact nomark _ | rfl) : TQ X r (.Compare a [op] [b] pos) k := fun F G t H A Q q => by
  obtain ⟨rl, ho, hr⟩ := h
  exact oT (pt_cmpR ho cE cE hm) (two A ha hb fun v1 v2 G' H' e k1 k2 => hr v1 v2 H' _ k1 k2 ⟨k, rfl, q G' H' e⟩)
theorem cr_i {op : CmpOp} {g : Int → Int → Bool} (ho : OpR X (compareOp op) (rI0 fun i j => .bl (g i j))) : CR X op (.int i) (.int j) (g i j) := ⟨_, ho, fun v1 v2 H Q k1 k2 q => by cases k1; cases k2; exact ⟨i, j, rfl, rfl, q⟩⟩
theorem cr_lt : CR X .Lt (.int i) (.int j) (decide (i < j)) := cr_i op_lt
theorem cr_le : CR X .LtE (.int i) (.int j) (decide (i ≤ j)) := cr_i op_le
theorem cr_gt : CR X .Gt (.int i) (.int j) (decide (j < i)) := cr_i op_gt
theorem cr_ge : CR X .GtE (.int i) (.int j) (decide (j ≤ i)) := cr_i op_ge
theorem dec_ints {i j : Int} : decide (V.int i = V.int j) = decide (i = j) := by
  by_cases h : i = j
  · rw [h]; simp
  · rw [decide_eq_false h, decide_eq_false fun z => h (V.int.inj z)]
theorem dec_bls {i j : Bool} : decide (V.bl i = V.bl j) = decide (i = j) := by
  by_cases h : i = j
  · rw [h]; simp
  · rw [decide_eq_false h, decide_eq_false fun z => h (V.bl.inj z)]
theorem dec_strs {i j : Str} : decide (V.str i = V.str j) = decide (i = j) := by
  by_cases h : i = j
  · rw [h]; simp
  · rw [decide_eq_false h, decide_eq_false fun z => h (V.str.inj z)]
theorem cr_eq : CR X .Eq (.int i) (.int j) (decide (i = j)) := ⟨_, op_eq, fun v1 v2 H Q k1 k2 q => by cases k1; cases k2; exact ⟨rfl, by rw [dec_ints]; exact q⟩⟩
theorem cr_ne : CR X .NotEq (.int i) (.int j) (!decide (i = j)) := ⟨_, op_ne, fun v1 v2 H Q k1 k2 q => by cases k1; cases k2; exact ⟨rfl, by rw [dec_ints]; exact q⟩⟩
theorem cr_eqB {i j : Bool} : CR X .Eq (.bl i) (.bl j) (decide (i = j)) := ⟨_, op_eq, fun v1 v2 H Q k1 k2 q => by cases k1; cases k2; exact ⟨rfl, by rw [dec_bls]; exact q⟩⟩
theorem cr_neB {i j : Bool} : CR X .NotEq (.bl i) (.bl j) (!decide (i = j)) := ⟨_, op_ne, fun v1 v2 H Q k1 k2 q => by cases k1; cases k2; exact ⟨rfl, by rw [dec_bls]; exact q⟩⟩
theorem cr_eqT {i j : Str} : CR X .Eq (.str i) (.str j) (decide (i = j)) := ⟨_, op_eq, fun v1 v2 H Q k1 k2 q => by cases k1; cases k2; exact ⟨rfl, by rw [dec_strs]; exact q⟩⟩
theorem cr_neT {i j : Str} : CR X .NotEq (.str i) (.str j) (!decide (i = j)) := ⟨_, op_ne, fun v1 v2 H Q k1 k2 q => by cases k1; cases k2; exact ⟨rfl, by rw [dec_strs]; exact q⟩⟩
/-- is None -/
def isN : D → Bool
  | .non => true
  | _ => false
theorem dt_isN {K : PySem.W.Frag} {G : Hp} {v : V} (h : Dt K G v d) (nv : ∀ w, d ≠ .val w) : decide (v = .non) = isN d := by
  cases h <;> first | rfl | exact absurd rfl (nv _)
theorem cr_isN (nv : ∀ w, d ≠ .val w := by intro w h; cases h) : CR X .Is d .non (isN d) := ⟨_, op_isN, fun v1 v2 H Q k1 k2 q => by cases k2; exact ⟨rfl, by rw [dt_isN k1 nv]; exact q⟩⟩
theorem cr_notN (nv : ∀ w, d ≠ .val w := by intro w h; cases h) : CR X .IsNot d .non (!isN d) := ⟨_, op_notN, fun v1 v2 H Q k1 k2 q => by cases k2; exact ⟨rfl, by rw [dt_isN k1 nv]; exact q⟩⟩
/-- a <= b <= c, a <= b < c -/
theorem pb_chain {op op' : CmpOp} {g g' : Int → Int → Bool} {k : Int} (ho : OpR X (compareOp op) (rI0 fun i j => .bl (g i j))) (ho' : OpR X (compareOp op') (rI0 fun i j => .bl (g' i j))) (ha : PB X r a (.int i)) (hb : PB X r b (.int j)) (hc : PB X r c (.int k))
    (hp : PE X e (tChain (rI0 fun i j => .bl (g i j)) (rI0 fun i j => .bl (g' i j)) (tE X a) (tE X b) (tE X c))) : PB X r e (.bl (g i j && g' j k)) := fun F G t H A Q q => by
  refine oE hp (two A ha hb fun v1 v2 G' H' e k1 k2 => ?_)
  cases k1; cases k2
  refine ⟨i, j, rfl, rfl, g i j, rfl, ?_⟩
  cases hg : g i j with
  | true =>
    show tE X c t H' _
    refine hc F G' t H' (A.ext e) _ fun v3 G2 H2 e2 k3 => ?_
    cases k3
    refine ⟨j, k, rfl, rfl, ?_⟩
    have z := q (.bl (g i j && g' j k)) G2 H2 (e.trans e2) (.bl _)
    rw [hg] at z
    exact z
  | false =>
    have z := q (.bl (g i j && g' j k)) G' H' e (.bl _)
    rw [hg] at z
    exact z
theorem tq_chain {op op' : CmpOp} {g g' : Int → Int → Bool} {k : Int} (ha : PB X r a (.int i)) (hb : PB X r b (.int j)) (hc : PB X r c (.int k))
    (hp : PT X e (tTest (tChain (rI0 fun i j => .bl (g i j)) (rI0 fun i j => .bl (g' i j)) (tE X a) (tE X b) (tE X c)))) : TQ X r e (g i j && g' j k) := fun F G t H A Q q => by
  refine oT hp (two A ha hb fun v1 v2 G' H' e k1 k2 => ?_)
  cases k1; cases k2
  refine ⟨i, j, rfl, rfl, g i j, rfl, ?_⟩
  cases hg : g i j with
  | true =>
    show tE X c t H' _
    refine hc F G' t H' (A.ext e) _ fun v3 G2 H2 e2 k3 => ?_
    cases k3
    refine ⟨j, k, rfl, rfl, g' j k, rfl, ?_⟩
    have z := q G2 H2 (e.trans e2)
    rw [hg] at z
    exact z
  | false =>
    have z := q G' H' e
    rw [hg] at z
    exact ⟨false, rfl, z⟩
theorem pb_lele {k : Int} (ha : PB X r a (.int i)) (hb : PB X r b (.int j)) (hc : PB X r c (.int k)) (hm : lastMarks [CmpOp.LtE, CmpOp.LtE] [b, c] = false := by with_unfolding_all rfl) : PB X r (.Compare a [.LtE, .LtE] [b, c] pos) (.bl (decide (i ≤ j) && decide (j ≤ k))) := pb_chain op_le op_le ha hb hc (pe_chain op_le op_le cE cE cE (hm := hm))
theorem pb_lelt {k : Int} (ha : PB X r a (.int i)) (hb : PB X r b (.int j)) (hc : PB X r c (.int k)) (hm : lastMarks [CmpOp.LtE, CmpOp.Lt] [b, c] = false := by with_unfolding_all rfl) : PB X r (.Compare a [.LtE, .Lt] [b, c] pos) (.bl (decide (i ≤ j) && decide (j < k))) := pb_chain op_le op_lt ha hb hc (pe_chain op_le op_lt cE cE cE (hm := hm))
theorem tq_lele {k : Int} (ha : PB X r a (.int i)) (hb : PB X r b (.int j)) (hc : PB X r c (.int k)) (hm : lastMarks [CmpOp.LtE, CmpOp.LtE] [b, c] = false := by with_unfolding_all rfl) : TQ X r (.Compare a [.LtE, .LtE] [b, c] pos) (decide (i ≤ j) && decide (j ≤ k)) := tq_chain (op := .LtE) (op' := .LtE) ha hb hc (pt_chain op_le op_le cE cE cE (hm := hm))
theorem tq_lelt {k : Int} (ha : PB X r a (.int i)) (hb : PB X r b (.int j)) (hc : PB X r c (.int k)) (hm : lastMarks [CmpOp.LtE, CmpOp.Lt] [b, c] = false := by with_unfolding_all rfl) : TQ X r (.Compare a [.LtE, .Lt] [b, c] pos) (decide (i ≤ j) && decide (j < k)) := tq_chain (op := .LtE) (op' := .Lt) ha hb hc (pt_chain op_le op_lt cE cE cE (hm := hm))

/-! and, or, not, if, as values -/
theorem pb_not {k : Bool} (ha : PB X r a (.bl k)) : PB X r (.UnaryOp .Not a pos) (.bl (!k)) := fun F G t H A Q q =>
  oE (pe_not cE) (ha F G t H A _ fun v G' H' e z => by cases z; exact ⟨k, rfl, q _ G' H' e (.bl _)⟩)
theorem pb_one {op : BoolOp} (ha : PB X r a d) : PB X r (.BoolOp op [a] pos) d := fun F G t H A Q q => oE (pe_one cE) (ha F G t H A Q q)
theorem pb_and {k k' : Bool} {rest : List Expr} (ha : PB X r a (.bl k)) (hb : k = true → PB X r (.BoolOp .And (b :: rest) pos) (.bl k')) : PB X r (.BoolOp .And (a :: b :: rest) pos) (.bl (k && k')) := fun F G t H A Q q =>
  oE (pe_and cE cE) (ha F G t H A _ fun v G' H' e z => by
    cases z
    refine ⟨k, rfl, ?_⟩
    cases k with
    | true => exact hb rfl F G' t H' (A.ext e) Q fun v G2 H2 e2 z => q v G2 H2 (e.trans e2) z
    | false => exact q (.bl false) G' H' e (.bl false))
theorem pb_or {k k' : Bool} {rest : List Expr} (ha : PB X r a (.bl k)) (hb : k = false → PB X r (.BoolOp .Or (b :: rest) pos) (.bl k')) : PB X r (.BoolOp .Or (a :: b :: rest) pos) (.bl (k || k')) := fun F G t H A Q q =>
  oE (pe_or cE cE) (ha F G t H A _ fun v G' H' e z => by
    cases z
    refine ⟨k, rfl, ?_⟩
    cases k with
    | true => exact q (.bl true) G' H' e (.bl true)
    | false => exact hb rfl F G' t H' (A.ext e) Q fun v G2 H2 e2 z => q v G2 H2 (e.trans e2) z)
theorem pb_if {k : Bool} (hc : TQ X r c k) (ha : k = true → PB X r a d) (hb : k = false → PB X r b d) : PB X r (.IfExp c a b pos) d := fun F G t H A Q q =>
  oE (pe_ifExp cT cE cE) (hc F G t H A _ fun G' H' e => by
    cases k with
    | true => exact ha rfl F G' t H' (A.ext e) Q fun v G2 H2 e2 z => q v G2 H2 (e.trans e2) z
    | false => exact hb rfl F G' t H' (A.ext e) Q fun v G2 H2 e2 z => q v G2 H2 (e.trans e2) z)
theorem pp_if {k : Bool} (hc : TQ X r c k) (ha : k = true → PP X r a d) (hb : k = false → PP X r b d) : PP X r (.IfExp c a b pos) d := fun F G t H A Q q =>
  oE (pe_ifExp cT cE cE) (hc F G t H A _ fun G' H' e => by
    cases k with
    | true => exact ha rfl F G' t H' (A.ext e) Q fun v G2 H2 e2 z => q v G2 H2 (e.trans e2) z
    | false => exact hb rfl F G' t H' (A.ext e) Q fun v G2 H2 e2 z => q v G2 H2 (e.trans e2) z)

/-! tests -/
theorem tq_v {k : Bool} (h : PB X r e (.bl k)) (he : ∀ whole, isTrue e X.env whole = (do let v ← whole; standAt e.pos; holding [v] (truthy v)) := by intro _; rfl) : TQ X r e k := fun F G t H A Q q =>
  oT (pt_val cE he) (h F G t H A _ fun v G' H' e z => by cases z; exact ⟨k, rfl, q G' H' e⟩)
theorem tq_not {k : Bool} (h : TQ X r a k) : TQ X r (.UnaryOp .Not a pos) (!k) := fun F G t H A Q q => oT (pt_not cT) (h F G t H A _ fun G' H' e => q G' H' e)
@[irreducible] def tW (X : Cx) (e : Expr) : TT := fun t H Q => ∀ (whole : Sem Value) (pins : List (Addr × Obj)) (s : Shared), Inv X pins t H s → wpAny (model X.prog X.w) X.A (isTrue e X.env whole) (TP X pins t Q) X.xe s
theorem cW : PW X e (tW X e) := ⟨fun wh pins s _ _ _ I h => by unfold tW at h; exact h wh pins s I⟩
def WQ (X : Cx) (r : List Slot) (e : Expr) (b : Bool) : Prop := ∀ (F : Fr) (G : Hp) (t : St) (H : Hp), At X.K F G r t H → ∀ Q : Bool → Hp → Prop, (∀ G' H', Ext G H G' H' → Q b H') → tW X e t H Q
theorem oW {t : TT} (h : PW X e t) {u : St} {H : Hp} {Q : Bool → Hp → Prop} (q : t u H Q) : tW X e u H Q := by unfold tW; exact fun wh pins s I => h.run wh pins s u H Q I q
theorem tq_w {k : Bool} (h : WQ X r e k) : TQ X r e k := fun F G t H A Q q => oT cW.pt (h F G t H A Q q)
theorem wq_and1 {k : Bool} (h : TQ X r a k) : WQ X r (.BoolOp .And [a] pos) k := fun F G t H A Q q => oW (pw_and1 cT) (h F G t H A Q q)
theorem wq_or1 {k : Bool} (h : TQ X r a k) : WQ X r (.BoolOp .Or [a] pos) k := fun F G t H A Q q => oW (pw_or1 cT) (h F G t H A Q q)
theorem wq_and {k k' : Bool} {rest : List Expr} (h : TQ X r a k) (h' : k = true → WQ X r (.BoolOp .And (b :: rest) pos) k') : WQ X r (.BoolOp .And (a :: b :: rest) pos) (k && k') := fun F G t H A Q q =>
  oW (pw_and cT cW) (h F G t H A _ fun G' H' e => by
    cases k with
    | true => exact h' rfl F G' t H' (A.ext e) Q fun G2 H2 e2 => q G2 H2 (e.trans e2)
    | false => exact q G' H' e)
theorem wq_or {k k' : Bool} {rest : List Expr} (h : TQ X r a k) (h' : k = false → WQ X r (.BoolOp .Or (b :: rest) pos) k') : WQ X r (.BoolOp .Or (a :: b :: rest) pos) (k || k') := fun F G t H A Q q =>
  oW (pw_or cT cW) (h F G t H A _ fun G' H' e => by
    cases k with
    | true => exact q G' H' e
    | false => exact h' rfl F G' t H' (A.ext e) Q fun G2 H2 e2 => q G2 H2 (e.trans e2))

/-! arguments, displays -/
theorem aq_nil : AQ X r [] [] := fun F G t H A Q q => oA pa_nil (q [] G H (Ext.refl A.gh) .nil)
theorem aq_cons (ha : PP X r e d) (hr : AQ X r es ds) (hs : starEach (e :: es) X.env = (false, eval e X.env) :: starEach es X.env := by rfl) : AQ X r (e :: es) (d :: ds) := fun F G t H A Q q =>
  oA (pa_cons cE cA hs) (ha F G t H A _ fun v G1 H1 e1 k1 => hr F G1 t H1 (A.ext e1) _ fun vs G2 H2 e2 k2 => q (v :: vs) G2 H2 (e1.trans e2) (.cons (Dt.mono e2.g _ _ k1) k2))
theorem ab_nil : AB X r [] [] := fun F G t H A Q q => oA pa_nil (q [] G H (Ext.refl A.gh) .nil)
theorem ab_cons (ha : PB X r e d) (hr : AB X r es ds) (hs : starEach (e :: es) X.env = (false, eval e X.env) :: starEach es X.env := by rfl) : AB X r (e :: es) (d :: ds) := fun F G t H A Q q =>
  oA (pa_cons cE cA hs) (ha F G t H A _ fun v G1 H1 e1 k1 => hr F G1 t H1 (A.ext e1) _ fun vs G2 H2 e2 k2 => q (v :: vs) G2 H2 (e1.trans e2) (.cons (Dt.mono e2.h _ _ k1) k2))
theorem pp_tup {k : Nat} (h : AQ X r es ds) (hz : ds.length ≤ sizeLine := by exact Nat.le_of_ble_eq_true rfl) : PP X r (.Tuple es k pos) (.tup ds) := fun F G t H A Q q =>
  oE (pe_tup cA) (h F G t H A _ fun vs G1 H1 e1 k1 => ⟨by rw [k1.len]; exact hz, fun p hp => q _ (upd G1 p (.tup vs)) _ (e1.trans (Ext.new e1.gh hp)) (.tup upd_same (DtAll.mono (Same.new (e1.gh.free hp)) _ _ k1))⟩)
theorem po_lst (h : AQ X r es ds) (hz : ds.length ≤ sizeLine := by exact Nat.le_of_ble_eq_true rfl) : PO X r (.List es pos) ds := fun F G t H A Q q =>
  oE (pe_lst cA) (h F G t H A _ fun vs G1 H1 e1 k1 => ⟨by rw [k1.len]; exact hz, fun p hp => q p vs G1 _ (e1.trans (Ext.newO e1.gh hp)) (e1.h.free hp) (e1.gh.free hp) upd_same k1⟩)

/-! items, slices -/
theorem dt_at {K : PySem.W.Frag} {G : Hp} {vs : List V} {z : Int} {d : D} (h : DtAll K G vs ds) (k : atI ds z = some d) : ∃ v, atI vs z = some v ∧ Dt K G v d := by
  unfold atI at k ⊢
  rw [h.len]
  cases e : ixN ds.length z with
  | none => rw [e] at k; cases k
  | some j =>
    rw [e] at k
    exact h.get k
theorem pb_ix (ha : PB X r a (.lst ds)) (hb : PB X r b (.int i)) (k : atI ds i = some d) (hs : PlainIx b := by exact fun _ _ => rfl) : PB X r (.Subscript a b pos) d := fun F G t H A Q q =>
  oE (pe_ix ix_list cE cE hs) (two A ha hb fun v1 v2 G' H' e k1 k2 => by
    cases k1 with
    | lst h1 h2 =>
      cases k2
      obtain ⟨v, hv, kv⟩ := dt_at h2 k
      exact ⟨_, _, i, v, rfl, rfl, SqL.of h1, hv, q v G' H' e kv⟩)
theorem pp_ix (ha : PP X r a (.lst ds)) (hb : PP X r b (.int i)) (k : atI ds i = some d) (hs : PlainIx b := by exact fun _ _ => rfl) : PP X r (.Subscript a b pos) d := fun F G t H A Q q =>
  oE (pe_ix ix_list cE cE hs) (twoP A ha hb fun v1 v2 G' H' e k1 k2 => by
    cases k1 with
    | lst h1 h2 =>
      cases k2
      obtain ⟨v, hv, kv⟩ := dt_at h2 k
      exact ⟨_, _, i, v, rfl, rfl, SqL.of (e.gh _ _ h1), hv, q v G' H' e kv⟩)
theorem pb_ixT (ha : PB X r a (.tup ds)) (hb : PB X r b (.int i)) (k : atI ds i = some d) (hs : PlainIx b := by exact fun _ _ => rfl) : PB X r (.Subscript a b pos) d := fun F G t H A Q q =>
  oE (pe_ix ix_tup cE cE hs) (two A ha hb fun v1 v2 G' H' e k1 k2 => by
    cases k1 with
    | tup h1 h2 =>
      cases k2
      obtain ⟨v, hv, kv⟩ := dt_at h2 k
      exact ⟨_, _, i, v, rfl, rfl, SqT.of h1, hv, q v G' H' e kv⟩)
theorem pp_ixT (ha : PP X r a (.tup ds)) (hb : PP X r b (.int i)) (k : atI ds i = some d) (hs : PlainIx b := by exact fun _ _ => rfl) : PP X r (.Subscript a b pos) d := fun F G t H A Q q =>
  oE (pe_ix ix_tup cE cE hs) (twoP A ha hb fun v1 v2 G' H' e k1 k2 => by
    cases k1 with
    | tup h1 h2 =>
      cases k2
      obtain ⟨v, hv, kv⟩ := dt_at h2 k
      exact ⟨_, _, i, v, rfl, rfl, SqT.of (e.gh _ _ h1), hv, q v G' H' e kv⟩)
theorem at_mapI {ns : List Int} {z n : Int} (k : atI ns z = some n) : atI (ns.map V.int) z = some (V.int n) := by
  unfold atI at k ⊢
  rw [List.length_map]
  cases e : ixN ns.length z with
  | none => rw [e] at k; cases k
  | some j =>
    rw [e] at k
    show (ns.map V.int)[j]? = _
    rw [List.getElem?_map, show ns[j]? = some n from k]
    rfl
theorem pb_ixS {ns : List Int} {n : Int} (ha : PB X r a (.scr ns)) (hb : PB X r b (.int i)) (k : atI ns i = some n) (hs : PlainIx b := by exact fun _ _ => rfl) : PB X r (.Subscript a b pos) (.int n) := fun F G t H A Q q =>
  oE (pe_ix ix_list cE cE hs) (two A ha hb fun v1 v2 G' H' e k1 k2 => by
    cases k1 with
    | scr h1 =>
      cases k2
      exact ⟨_, _, i, _, rfl, rfl, h1, at_mapI k, q _ G' H' e (.int n)⟩)
end
end DL

/-! Part 3: calls, list operations, statements, defs. -/
namespace DL
open PySem L2

/-- built-in names that the module leaves alone -/
structure Bi (mg : Str → Option Value) : Prop where
  len : mg "len" = none
  range : mg "range" = none
  enum : mg "enumerate" = none
  isi : mg "isinstance" = none
  list : mg "list" = none
  int : mg "int" = none
  bool : mg "bool" = none
  str : mg "str" = none
  sum : mg "sum" = none
  all : mg "all" = none
  any : mg "any" = none
  max : mg "max" = none
  min : mg "min" = none
  sorted : mg "sorted" = none
  set : mg "set" = none
  abs : mg "abs" = none
  zip : mg "zip" = none
  tuple : mg "tuple" = none

section
variable {X : Cx} {r : List Slot} {e a b c : Expr} {es : List Expr} {pos p : Pos} {d d1 d2 : D} {ds xs ys : List D} {i j : Int} {x : Str}

/-! ### built-in calls -/
theorem ab1 (h : PB X r a d) (hs : starEach [a] X.env = (false, eval a X.env) :: starEach [] X.env := by rfl) : AB X r [a] [d] := ab_cons h ab_nil hs
theorem ab2 (h : PB X r a d1) (h' : PB X r b d2) (hs : starEach [a, b] X.env = (false, eval a X.env) :: starEach [b] X.env := by rfl) (hs' : starEach [b] X.env = (false, eval b X.env) :: starEach [] X.env := by rfl) : AB X r [a, b] [d1, d2] := ab_cons h (ab_cons h' ab_nil hs') hs
/-- a built-in call on looked-at values whose answer stands by itself -/
theorem pb_call1 {rl : List V → Hp → VK → Prop} {v : V} (ho : PE X e (tCB rl (tAr X es))) (ha : AB X r es ds) (hr : ∀ vs H Q, DtAll X.K H vs ds → Q v H → rl vs H Q) (k : ∀ G, Dt X.K G v d) : PB X r e d := fun F G t H A Q q =>
  oE ho (ha F G t H A _ fun vs G' H' e k1 => hr vs H' Q k1 (q v G' H' e (k H')))
def lenD : D → Option Nat
  | .lst xs => some xs.length
  | .tup xs => some xs.length
  | .scr ns => some ns.length
  | _ => none
theorem pb_len {n : Nat} (B : Bi X.mg) (ha : PB X r a d) (hn : lenD d = some n := by rfl) (hs : starEach [a] X.env = (false, eval a X.env) :: starEach [] X.env := by rfl) (hg : Gl X "len" := by rfl) (hp : (backTo pos (starEach [] X.env)).any (·.1) = false := by rfl) : PB X r (.Call (.Name "len" p) [a] [] pos) (.int n) :=
  pb_call1 (v := .int n) (pe_callB call_len_seq hg B.len PySem.boot_len cA (he := hs) (hpl := hp)) (ab1 ha hs) (fun vs H Q k q => by
    cases k with
    | cons k1 k2 =>
      cases k2
      cases k1 <;> first
        | (cases hn; done)
        | skip
      case lst h1 h2 => cases hn; exact ⟨_, _, rfl, .inl (SqL.of h1), by rw [h2.len]; exact q⟩
      case tup h1 h2 => cases hn; exact ⟨_, _, rfl, .inr (SqT.of h1), by rw [h2.len]; exact q⟩
      case scr h1 => cases hn; exact ⟨_, _, rfl, .inl h1, by rw [List.length_map]; exact q⟩) fun _ => .int _
theorem pb_int {k : Bool} (B : Bi X.mg) (ha : PB X r a (.bl k)) (hs : starEach [a] X.env = (false, eval a X.env) :: starEach [] X.env := by rfl) (hg : Gl X "int" := by rfl) (hp : (backTo pos (starEach [] X.env)).any (·.1) = false := by rfl) : PB X r (.Call (.Name "int" p) [a] [] pos) (.int (if k then 1 else 0)) :=
  pb_call1 (v := .int (if k then 1 else 0)) (pe_callTy call_int1 hg B.int (by decide +kernel) cA (he := hs) (hpl := hp)) (ab1 ha hs) (fun vs H Q k q => by
    cases k with
    | cons k1 k2 => cases k2; cases k1; exact .inr ⟨_, rfl, q⟩) fun _ => .int _
theorem pb_sum {ns : List Int} (B : Bi X.mg) (ha : PB X r a (.lst (ns.map .int))) (hc : X.calm = true := by rfl) (hs : starEach [a] X.env = (false, eval a X.env) :: starEach [] X.env := by rfl) (hg : Gl X "sum" := by rfl) (hp : (backTo pos (starEach [] X.env)).any (·.1) = false := by rfl) : PB X r (.Call (.Name "sum" p) [a] [] pos) (.int ns.sum) :=
  pb_call1 (v := .int ns.sum) (pe_callB (cr_sum hc) hg B.sum (by decide +kernel) cA (he := hs) (hpl := hp)) (ab1 ha hs) (fun vs H Q k q => by
    cases k with
    | cons k1 k2 =>
      cases k2
      cases k1 with
      | lst h1 h2 => rw [h2.ints_inv] at h1; exact ⟨_, ns, rfl, SqL.of h1, q⟩) fun _ => .int _
theorem pb_all {ns : List Bool} (B : Bi X.mg) (ha : PB X r a (.lst (ns.map .bl))) (hc : X.calm = true := by rfl) (hs : starEach [a] X.env = (false, eval a X.env) :: starEach [] X.env := by rfl) (hg : Gl X "all" := by rfl) (hp : (backTo pos (starEach [] X.env)).any (·.1) = false := by rfl) : PB X r (.Call (.Name "all" p) [a] [] pos) (.bl (ns.all id)) :=
  pb_call1 (v := .bl (ns.all id)) (pe_callB (cr_all hc) hg B.all (by decide +kernel) cA (he := hs) (hpl := hp)) (ab1 ha hs) (fun vs H Q k q => by
    cases k with
    | cons k1 k2 =>
      cases k2
      cases k1 with
      | lst h1 h2 => rw [h2.bls_inv] at h1; exact ⟨_, ns, rfl, SqL.of h1, q⟩) fun _ => .bl _
theorem pb_any {ns : List Bool} (B : Bi X.mg) (ha : PB X r a (.lst (ns.map .bl))) (hc : X.calm = true := by rfl) (hs : starEach [a] X.env = (false, eval a X.env) :: starEach [] X.env := by rfl) (hg : Gl X "any" := by rfl) (hp : (backTo pos (starEach [] X.env)).any (·.1) = false := by rfl) : PB X r (.Call (.Name "any" p) [a] [] pos) (.bl (ns.any id)) :=
  pb_call1 (v := .bl (ns.any id)) (pe_callB (cr_any hc) hg B.any (by decide +kernel) cA (he := hs) (hpl := hp)) (ab1 ha hs) (fun vs H Q k q => by
    cases k with
    | cons k1 k2 =>
      cases k2
      cases k1 with
      | lst h1 h2 => rw [h2.bls_inv] at h1; exact ⟨_, ns, rfl, SqL.of h1, q⟩) fun _ => .bl _
/-- max(a, b), min(a, b) -/
theorem pb_max2 (B : Bi X.mg) (ha : PB X r a (.int i)) (hb : PB X r b (.int j)) (hc : X.calm = true := by rfl) (hs : starEach [a, b] X.env = (false, eval a X.env) :: starEach [b] X.env := by rfl) (hs' : starEach [b] X.env = (false, eval b X.env) :: starEach [] X.env := by rfl) (hg : Gl X "max" := by rfl) (hp : (backTo pos (starEach [b] X.env)).any (·.1) = false := by rfl) :
    PB X r (.Call (.Name "max" p) [a, b] [] pos) (.int (max i j)) :=
  pb_call1 (v := .int (max i j)) (pe_callB (call_max2 hc) hg B.max (by decide +kernel) cA (he := hs) (hpl := hp)) (ab2 ha hb hs hs') (fun vs H Q k q => by
    cases k with
    | cons k1 k2 =>
      cases k2 with
      | cons k2 k3 =>
        cases k3; cases k1; cases k2
        refine ⟨i, j, rfl, ?_⟩
        have e : (if j > i then j else i) = max i j := by rw [Int.max_def]; split <;> split <;> omega
        rw [e]; exact q) fun _ => .int _
theorem pb_min2 (B : Bi X.mg) (ha : PB X r a (.int i)) (hb : PB X r b (.int j)) (hc : X.calm = true := by rfl) (hs : starEach [a, b] X.env = (false, eval a X.env) :: starEach [b] X.env := by rfl) (hs' : starEach [b] X.env = (false, eval b X.env) :: starEach [] X.env := by rfl) (hg : Gl X "min" := by rfl) (hp : (backTo pos (starEach [b] X.env)).any (·.1) = false := by rfl) :
    PB X r (.Call (.Name "min" p) [a, b] [] pos) (.int (min i j)) :=
  pb_call1 (v := .int (min i j)) (pe_callB (call_min2 hc) hg B.min (by decide +kernel) cA (he := hs) (hpl := hp)) (ab2 ha hb hs hs') (fun vs H Q k q => by
    cases k with
    | cons k1 k2 =>
      cases k2 with
      | cons k2 k3 =>
        cases k3; cases k1; cases k2
        refine ⟨i, j, rfl, ?_⟩
        have e : (if j < i then j else i) = min i j := by rw [Int.min_def]; split <;> split <;> omega
        rw [e]; exact q) fun _ => .int _
/-- isinstance(x, T), T a built-in type -/
def tyD : D → Option String
  | .non => some "NoneType"
  | .bl _ => some "bool"
  | .int _ => some "int"
  | .str _ => some "str"
  | .lst _ => some "list"
  | .tup _ => some "tuple"
  | .dct => some "dict"
  | _ => none
theorem dt_ty {K : PySem.W.Frag} {H : Hp} {v : V} {n : String} (h : Dt K H v d) (e : tyD d = some n) : TyX K H v (.type n) := by
  cases h <;> cases e
  case non => exact .base .non
  case bl => exact .base (.bl _)
  case int => exact .base (.int _)
  case str => exact .base (.str _)
  case lst h1 h2 => exact .base (.lst h1)
  case tup h1 h2 => exact .base (.tup h1)
  case dct h1 => exact .base (.dK h1)
theorem pb_isi {n T : String} {k : Bool} {pT : Pos} (B : Bi X.mg) (ha : PB X r a d) (hT : X.mg x = none) (hv : bootBuiltins x = some (.type T)) (hn : tyD d = some n) (hk : kitB n T = some k) (hgT : Gl X x := by rfl) (hxn : x ≠ "__name__" := by decide) (hxd : (x == ("__debug__" : Str)) = false := by decide)
    (hs : starEach [a, .Name x pT] X.env = (false, eval a X.env) :: starEach [.Name x pT] X.env := by rfl) (hg : Gl X "isinstance" := by rfl) (hp : (backTo pos (starEach [.Name x pT] X.env)).any (·.1) = false := by rfl) :
    PB X r (.Call (.Name "isinstance" p) [a, .Name x pT] [] pos) (.bl k) :=
  pb_call1 (v := .bl k) (pe_callB call_isi hg B.isi (by decide +kernel) cA (he := hs) (hpl := hp)) (ab2 ha (pb (pp_ty hT hv hgT hxn hxd)) hs rfl) (fun vs H Q k q => by
    cases k with
    | cons k1 k2 =>
      cases k2 with
      | cons k2 k3 =>
        cases k3; cases k2
        exact ⟨_, .ty T, _, _, _, rfl, .ty T, dt_ty k1 hn, kit_ty hk, q⟩) fun _ => .bl _
/-- abs(n) -/
theorem pb_abs (B : Bi X.mg) (ha : PB X r a (.int i)) (hs : starEach [a] X.env = (false, eval a X.env) :: starEach [] X.env := by rfl) (hg : Gl X "abs" := by rfl) (hp : (backTo pos (starEach [] X.env)).any (·.1) = false := by rfl) : PB X r (.Call (.Name "abs" p) [a] [] pos) (.int (i.natAbs : Int)) :=
  pb_call1 (v := .int (i.natAbs : Int)) (pe_callB call_abs hg B.abs (by decide +kernel) cA (he := hs) (hpl := hp)) (ab1 ha hs) (fun vs H Q k q => by
    cases k with
    | cons k1 k2 =>
      cases k2; cases k1
      refine ⟨i, rfl, ?_⟩
      have e : (if i < 0 then -i else i) = (i.natAbs : Int) := by split <;> omega
      rw [e]; exact q) fun _ => .int _

/-! ### new lists -/
/-- list(xs) -/
theorem po_list (B : Bi X.mg) (ha : PP X r a (.lst ds)) (hs : starEach [a] X.env = (false, eval a X.env) :: starEach [] X.env := by rfl) (hg : Gl X "list" := by rfl) (hp : (backTo pos (starEach [] X.env)).any (·.1) = false := by rfl) : PO X r (.Call (.Name "list" p) [a] [] pos) ds := fun F G t H A Q q =>
  oE (pe_callTy call_list_of hg B.list (by decide +kernel) cA (he := hs) (hpl := hp)) (aq_cons ha aq_nil hs F G t H A _ fun vs G1 H1 e1 k => by
    cases k with
    | cons k1 k2 =>
      cases k2
      cases k1 with
      | lst h1 h2 => exact ⟨_, _, rfl, .inl (SqL.of (e1.gh _ _ h1)), fun l hl => q l _ G1 _ (e1.trans (Ext.newO e1.gh hl)) (e1.h.free hl) (e1.gh.free hl) upd_same h2⟩)
theorem DtAll.scAny {K : PySem.W.Frag} {G G' : Hp} : ∀ {vs : List V} {ds : List D}, (∀ d, d ∈ ds → Sc d) → DtAll K G vs ds → DtAll K G' vs ds
  | _, _, _, .nil => .nil
  | _, _, s, .cons h t => .cons ((s _ (List.mem_cons_self ..)).any h) (DtAll.scAny (fun d hd => s d (List.mem_cons_of_mem _ hd)) t)
theorem sc_ints {ns : List Int} : ∀ d, d ∈ ns.map D.int → Sc d := fun d hd => by
  obtain ⟨n, _, rfl⟩ := List.mem_map.mp hd
  exact .int
theorem po_listB (B : Bi X.mg) (ha : PB X r a (.lst ds)) (sc : ∀ d, d ∈ ds → Sc d) (hs : starEach [a] X.env = (false, eval a X.env) :: starEach [] X.env := by rfl) (hg : Gl X "list" := by rfl) (hp : (backTo pos (starEach [] X.env)).any (·.1) = false := by rfl) : PO X r (.Call (.Name "list" p) [a] [] pos) ds := fun F G t H A Q q =>
  oE (pe_callTy call_list_of hg B.list (by decide +kernel) cA (he := hs) (hpl := hp)) (ab1 ha hs F G t H A _ fun vs G1 H1 e1 k => by
    cases k with
    | cons k1 k2 =>
      cases k2
      cases k1 with
      | lst h1 h2 => exact ⟨_, _, rfl, .inl (SqL.of h1), fun l hl => q l _ G1 _ (e1.trans (Ext.newO e1.gh hl)) (e1.h.free hl) (e1.gh.free hl) upd_same (h2.scAny sc)⟩)
/-- xs + ys -/
theorem po_cat (ha : PP X r a (.lst xs)) (hb : PP X r b (.lst ys)) (hz : xs.length + ys.length ≤ sizeLine) : PO X r (.BinOp a .Add b pos) (xs ++ ys) := fun F G t H A Q q =>
  oE (pe_op op_cat cE cE) (twoP A ha hb fun v w G' H' e k1 k2 => by
    cases k1 with
    | lst h1 h2 =>
      cases k2 with
      | lst h3 h4 => exact ⟨_, _, _, _, rfl, rfl, e.gh _ _ h1, e.gh _ _ h3, by rw [h2.len, h4.len]; exact hz, fun p hp => q p _ G' _ (e.trans (Ext.newO e.gh hp)) (e.h.free hp) (e.gh.free hp) upd_same (h2.app h4)⟩)
theorem po_catB (ha : PB X r a (.lst xs)) (hb : PB X r b (.lst ys)) (hz : xs.length + ys.length ≤ sizeLine) (sc : ∀ d, d ∈ xs ++ ys → Sc d) : PO X r (.BinOp a .Add b pos) (xs ++ ys) := fun F G t H A Q q =>
  oE (pe_op op_cat cE cE) (two A ha hb fun v w G' H' e k1 k2 => by
    cases k1 with
    | lst h1 h2 =>
      cases k2 with
      | lst h3 h4 => exact ⟨_, _, _, _, rfl, rfl, h1, h3, by rw [h2.len, h4.len]; exact hz, fun p hp => q p _ G' _ (e.trans (Ext.newO e.gh hp)) (e.h.free hp) (e.gh.free hp) upd_same ((h2.app h4).scAny sc)⟩)
/-- xs * n -/
theorem po_rep {n : Int} (ha : PP X r a (.lst xs)) (hb : PP X r b (.int n)) (h1 : -(2 ^ 63) ≤ n) (h2 : n < 2 ^ 63) (hz : xs.length * n.toNat ≤ sizeLine) : PO X r (.BinOp a .Mult b pos) (List.replicate n.toNat xs).flatten := fun F G t H A Q q =>
  oE (pe_op op_rep cE cE) (twoP A ha hb fun v w G' H' e k1 k2 => by
    cases k1 with
    | lst g1 g2 =>
      cases k2
      exact ⟨_, n, _, rfl, rfl, e.gh _ _ g1, h1, h2, by rw [g2.len]; exact hz, fun p hp => q p _ G' _ (e.trans (Ext.newO e.gh hp)) (e.h.free hp) (e.gh.free hp) upd_same (g2.rep _)⟩)
/-- xs[lo:hi] -/
def cutD (xs : List D) (lo hi : Option Int) : List D := (xs.drop (HT.sIx xs.length 0 lo)).take (HT.sIx xs.length xs.length hi - HT.sIx xs.length 0 lo)
theorem dt_cut {K : PySem.W.Frag} {G : Hp} {vs : List V} (h : DtAll K G vs xs) (lo hi : Option Int) : DtAll K G (cutV vs lo hi) (cutD xs lo hi) := by
  unfold cutV cutD
  rw [h.len]
  exact (h.drop _).take _
/-- a slice's end -/
def EQ (X : Cx) (r : List Slot) : Option Expr → Option Int → Prop
  | none, o => o = none
  | some e, o => ∃ i, o = some i ∧ PB X r e (.int i)
def tO (X : Cx) : Option Expr → TO
  | none => tNoPart
  | some e => tPart (tE X e)
theorem cO {o : Option Expr} : L2.PO X o (tO X o) := by
  cases o with
  | none => exact po_none
  | some e => exact po_some cE
theorem eq_run {o : Option Expr} {z : Option Int} (h : EQ X r o z) {F : Fr} {G : Hp} {t : St} {H : Hp} (A : At X.K F G r t H) {Q : Option Int → Hp → Prop} (q : ∀ G' H', Ext G H G' H' → Q z H') : tO X o t H Q := by
  cases o with
  | none => rw [show z = none from h] at q; exact q G H (Ext.refl A.gh)
  | some e =>
    obtain ⟨i, rfl, k⟩ := h
    exact k F G t H A _ fun v G' H' e z => by cases z; exact ⟨i, rfl, q G' H' e⟩
theorem po_cut {lo hi : Option Expr} {zl zh : Option Int} {p2 : Pos} (ha : PP X r a (.lst xs)) (hl : EQ X r lo zl) (hh : EQ X r hi zh) : DL.PO X r (.Subscript a (.Slice lo hi none p2) pos) (cutD xs zl zh) := fun F G t H A Q q =>
  oE (pe_slice sl_list cE cO cO) (ha F G t H A _ fun v G1 H1 e1 k1 => eq_run hl (A.ext e1) fun G2 H2 e2 => eq_run hh ((A.ext e1).ext e2) fun G3 H3 e3 => by
    cases k1 with
    | lst h1 h2 =>
      have e := (e1.trans e2).trans e3
      exact ⟨_, _, rfl, SqL.of (e3.h _ _ (e2.h _ _ (e1.gh _ _ h1))), fun p hp => q p _ G3 _ (e.trans (Ext.newO e3.gh hp)) (e.h.free hp) (e3.gh.free hp) upd_same (dt_cut (DtAll.mono (e2.g.trans e3.g) _ _ h2) zl zh)⟩)
theorem eqN : EQ X r none none := rfl
theorem eqS {i : Int} (h : PB X r e (.int i)) : EQ X r (some e) (some i) := ⟨i, rfl, h⟩
end
end DL

/-! Part 4: statements, loops, defs and their calls, comprehensions. -/
namespace DL
open PySem L2

/-! ### weaker states -/
inductive Le : List Slot → List Slot → Prop
  | nil : Le [] []
  | same {s : Slot} {r r' : List Slot} : Le r r' → Le (s :: r) (s :: r')
  | drop {s : Slot} {r r' : List Slot} : Le r r' → Le (s :: r) (.un :: r')
  | tell {xs : List D} {r r' : List Slot} : Le r r' → Le (.o xs :: r) (.d (.lst xs) :: r')
theorem Le.refl : ∀ {r : List Slot}, Le r r
  | [] => .nil
  | _ :: _ => .same Le.refl
theorem Le.of {r r' : List Slot} (h : r = r') : Le r r' := h ▸ Le.refl
section
variable {K : PySem.W.Frag}
/-- what is told is new since the entry -/
theorem Le.run {F : Fr} {H : Hp} {G0 : Hp} (k0 : Ok F G0 H) : ∀ {r r' : List Slot} (_ : Le r r') {G : Hp} {t : St} {fp : List Addr}, Same G0 G → Same G H → Slots K G H r t fp → fp.Nodup → (∀ a, a ∈ fp → G a = none ∧ F.H a = none) →
    ∃ G' fp', Same G G' ∧ Same G' H ∧ Slots K G' H r' t fp' ∧ (∀ a, a ∈ fp' → a ∈ fp) ∧ fp'.Nodup ∧ (∀ a, G a = none → a ∉ fp → G' a = none) ∧ (∀ a, a ∈ fp' → G' a = none) := by
  intro r r' l
  induction l with
  | nil =>
    intro G t fp g gh s nd fr
    exact ⟨G, fp, Same.refl G, gh, s, fun _ h => h, nd, fun _ h _ => h, fun a h => (fr a h).1⟩
  | same _ ih =>
    intro G t fp g gh s nd fr
    cases s with
    | @cons _ v f0 fps _ t h1 h2 =>
      rw [List.nodup_append] at nd
      obtain ⟨n1, n2, n3⟩ := nd
      obtain ⟨G', fp', a1, a2, a3, a4, a5, a6, a7⟩ := ih g gh h2 n2 fun a ha => fr a (List.mem_append_right _ ha)
      have n0 : ∀ a, a ∈ f0 → G' a = none := fun a ha => a6 a (fr a (List.mem_append_left _ ha)).1 fun z => n3 a ha a z rfl
      refine ⟨G', f0 ++ fp', a1, a2, .cons (h1.frame a1 fun _ _ _ q => q) a3, fun a ha => ?_, ?_, fun a ha hn => a6 a ha fun z => hn (List.mem_append_right _ z), fun a ha => ?_⟩
      · rcases List.mem_append.mp ha with z | z
        · exact List.mem_append_left _ z
        · exact List.mem_append_right _ (a4 a z)
      · rw [List.nodup_append]
        exact ⟨n1, a5, fun x hx y hy e => n3 x hx y (a4 y hy) e⟩
      · rcases List.mem_append.mp ha with z | z
        · exact n0 a z
        · exact a7 a z
  | drop _ ih =>
    intro G t fp g gh s nd fr
    cases s with
    | @cons _ v f0 fps _ t h1 h2 =>
      rw [List.nodup_append] at nd
      obtain ⟨n1, n2, n3⟩ := nd
      obtain ⟨G', fp', a1, a2, a3, a4, a5, a6, a7⟩ := ih g gh h2 n2 fun a ha => fr a (List.mem_append_right _ ha)
      exact ⟨G', [] ++ fp', a1, a2, .cons rfl a3, fun a ha => List.mem_append_right _ (a4 a ha), a5, fun a ha hn => a6 a ha fun z => hn (List.mem_append_right _ z), a7⟩
  | tell _ ih =>
    intro G t fp g gh s nd fr
    cases s with
    | @cons _ v f0 fps _ t h1 h2 =>
      rw [List.nodup_append] at nd
      obtain ⟨n1, n2, n3⟩ := nd
      obtain ⟨G', fp', a1, a2, a3, a4, a5, a6, a7⟩ := ih g gh h2 n2 fun a ha => fr a (List.mem_append_right _ ha)
      obtain ⟨v, rfl, p, vs, rfl, rfl, k1, k2⟩ := h1
      have gp : G' p = none := a6 p (fr p (by simp)).1 fun z => n3 p (by simp) p z rfl
      have s1 : Same G' (upd G' p (.lst vs)) := Same.new gp
      have ne : ∀ a, a ∈ fp' → a ≠ p := fun a ha e => n3 p (by simp) a (a4 a ha) e.symm
      refine ⟨upd G' p (.lst vs), [] ++ fp', a1.trans s1, fun a o q => ?_, .cons ⟨_, rfl, rfl, .lst upd_same (DtAll.mono (a1.trans s1) _ _ k2)⟩ (a3.frame s1 fun _ _ _ q => q), fun a ha => List.mem_append_right _ (a4 a ha), a5, fun a ha hn => ?_, fun a ha => ?_⟩
      · by_cases w : a = p
        · subst w; rw [upd_same] at q; rw [k1]; exact q
        · rw [upd_ne w] at q; exact a2 a o q
      · rw [upd_ne (fun w => hn (by rw [w]; simp))]
        exact a6 a ha fun z => hn (List.mem_append_right _ z)
      · rw [upd_ne (ne a ha)]
        exact a7 a ha
end
/-- no loans: the state may be told weaker -/
theorem At.le {K : PySem.W.Frag} {F : Fr} {G : Hp} {r r' : List Slot} {t : St} {H : Hp} (h : At K F G r t H) (l : Le r r') (nl : F.L = []) : ∃ G', Same G G' ∧ At K F G' r' t H := by
  obtain ⟨k, fp, s, nd, fr⟩ := h
  have fr' : ∀ a, a ∈ fp → G a = none ∧ F.H a = none := fun a ha => ⟨(fr a ha).1, (fr a ha).2.elim id fun z => by rw [nl] at z; cases z⟩
  obtain ⟨G', fp', a1, a2, a3, a4, a5, a6, a7⟩ := Le.run k l (Same.refl G) k.gh s nd fr'
  refine ⟨G', a1, ⟨k.g.trans a1, a2, k.h, fun a ha hg => a6 a (k.nw a ha hg) fun z => ?_, k.ln⟩, fp', a3, a5, fun a ha => ⟨a7 a ha, .inl (fr' a (a4 a ha)).2⟩⟩
  exact ha (fr' a z).2

/-! ### statements -/
/-- N: what may follow; R: what may be handed back, and the state then -/
def HS (X : Cx) (r : List Slot) (sts : List Stmt) (N : List Slot → Prop) (R : Slot → List Slot → Prop) : Prop := ∀ (F : Fr) (G : Hp) (t : St) (H : Hp), F.L = [] → At X.K F G r t H → ∀ D : Ends,
  (∀ r' G' t' H', N r' → At X.K F G' r' t' H' → D.nx t' H') → (∀ s r' v t' G' H', R s r' → At X.K F G' (s :: r') (some v :: t') H' → D.rt v H') → tSs X sts D t H
def S1 (X : Cx) (r : List Slot) (st : Stmt) (N : List Slot → Prop) (R : Slot → List Slot → Prop) : Prop := ∀ (F : Fr) (G : Hp) (t : St) (H : Hp), F.L = [] → At X.K F G r t H → ∀ D : Ends,
  (∀ r' G' t' H', N r' → At X.K F G' r' t' H' → D.nx t' H') → (∀ s r' v t' G' H', R s r' → At X.K F G' (s :: r') (some v :: t') H' → D.rt v H') → tS X st D t H
section
variable {X : Cx} {r r1 : List Slot} {e a b c : Expr} {es : List Expr} {pos p px : Pos} {d d1 d2 : D} {ds xs ys : List D} {i j : Int} {x : Str} {st : Stmt} {rest body : List Stmt} {N M : List Slot → Prop} {R : Slot → List Slot → Prop}
theorem hs_nil (h : N r) : HS X r [] N R := fun F G t H nl A D n _ => oSs pss_nil (n r G t H h A)
theorem hs_cons (h : S1 X r st M R) (k : ∀ r', M r' → HS X r' rest N R) : HS X r (st :: rest) N R := fun F G t H nl A D n q =>
  oSs (pss_cons cS cSs) (h F G t H nl A { D with nx := tSs X rest D } (fun r' G' t' H' m A' => k r' m F G' t' H' nl A' D n q) q)
theorem hs_one (h : S1 X r st N R) : HS X r [st] N R := fun F G t H nl A D n q => oSs (pss_one cS) (h F G t H nl A D n q)
theorem hs_le (l : Le r r1) (h : HS X r1 rest N R) : HS X r rest N R := fun F G t H nl A D n q => by
  obtain ⟨G', _, A'⟩ := A.le l nl
  exact h F G' t H nl A' D n q
theorem hs_mono (h : HS X r rest M R) (k : ∀ r', M r' → N r') : HS X r rest N R := fun F G t H nl A D n q => h F G t H nl A D (fun r' G' t' H' m => n r' G' t' H' (k r' m)) q
/-- x = e -/
theorem s1_asg (i : Nat) {s : Slot} (nd : X.N.Nodup) (he : PP X r e d) (m : M (r.set i (.d d))) (hr : r[i]? = some s := by rfl) (hN : X.N[i]? = some x := by rfl) (hx : Loc X.env.scope x := by first | exact Or.inl rfl | exact Or.inr rfl) (hs : swapsWith e (some (.Name x px)) pos.line X.env = pure false := by rfl)
    (hf : X.fn x = true ∨ X.env.scope.names.lookup x = some .local := by first | exact .inl rfl | exact .inr rfl) : S1 X r (.Assign [.Name x px] e pos) M R := fun F G t H nl A D n q =>
  oS (ps_set nd hN hx cE hs hf) (he F G t H A _ fun v G' H' e k => n _ G' _ H' m ((A.ext e).asg hr k))
theorem s1_asgO (i : Nat) {s : Slot} (nd : X.N.Nodup) (he : PO X r e xs) (m : M (r.set i (.o xs))) (hr : r[i]? = some s := by rfl) (hN : X.N[i]? = some x := by rfl) (hx : Loc X.env.scope x := by first | exact Or.inl rfl | exact Or.inr rfl) (hs : swapsWith e (some (.Name x px)) pos.line X.env = pure false := by rfl)
    (hf : X.fn x = true ∨ X.env.scope.names.lookup x = some .local := by first | exact .inl rfl | exact .inr rfl) : S1 X r (.Assign [.Name x px] e pos) M R := fun F G t H nl A D n q =>
  oS (ps_set nd hN hx cE hs hf) (he F G t H A _ fun p vs G' H' e np g k da => n _ G' _ H' m (A.asgO hr e np g k da))
theorem hs_asg (i : Nat) {s : Slot} (nd : X.N.Nodup) (he : PP X r e d) (k : HS X (r.set i (.d d)) rest N R) (hr : r[i]? = some s := by rfl) (hN : X.N[i]? = some x := by rfl) (hx : Loc X.env.scope x := by first | exact Or.inl rfl | exact Or.inr rfl) (hs : swapsWith e (some (.Name x px)) pos.line X.env = pure false := by rfl)
    (hf : X.fn x = true ∨ X.env.scope.names.lookup x = some .local := by first | exact .inl rfl | exact .inr rfl) : HS X r (.Assign [.Name x px] e pos :: rest) N R := hs_cons (M := fun r' => r' = r.set i (.d d)) (s1_asg i nd he rfl hr hN hx hs hf) fun _ e => e ▸ k
theorem hs_asgO (i : Nat) {s : Slot} (nd : X.N.Nodup) (he : PO X r e xs) (k : HS X (r.set i (.o xs)) rest N R) (hr : r[i]? = some s := by rfl) (hN : X.N[i]? = some x := by rfl) (hx : Loc X.env.scope x := by first | exact Or.inl rfl | exact Or.inr rfl) (hs : swapsWith e (some (.Name x px)) pos.line X.env = pure false := by rfl)
    (hf : X.fn x = true ∨ X.env.scope.names.lookup x = some .local := by first | exact .inl rfl | exact .inr rfl) : HS X r (.Assign [.Name x px] e pos :: rest) N R := hs_cons (M := fun r' => r' = r.set i (.o xs)) (s1_asgO i nd he rfl hr hN hx hs hf) fun _ e => e ▸ k
/-- return e -/
theorem At.front {K : PySem.W.Frag} {F : Fr} {G : Hp} {t : St} {H : Hp} {v : V} (A : At K F G r t H) (k : Dt K G v d) : At K F G (.d d :: r) (some v :: t) H := by
  obtain ⟨o, fp, s, nd, fr⟩ := A
  exact ⟨o, [] ++ fp, .cons ⟨v, rfl, rfl, k⟩ s, nd, fr⟩
theorem s1_ret (he : PP X r e d) (m : R (.d d) r) : S1 X r (.Return (some e) pos) N R := fun F G t H nl A D n q =>
  oS (ps_ret cE) (he F G t H A _ fun v G' H' e k => q _ r v t G' H' m ((A.ext e).front k))
theorem hs_ret (he : PP X r e d) (m : R (.d d) r) : HS X r (.Return (some e) pos :: rest) N R := hs_cons (M := fun _ => False) (s1_ret he m) fun _ h => h.elim
theorem s1_retP (he : PO X r e xs) (m : R (.o xs) r) : S1 X r (.Return (some e) pos) N R := fun F G t H nl A D n q =>
  oS (ps_ret cE) (he F G t H A _ fun p vs G' H' e np g k da => by
    have fH : F.H p = none := by
      cases z : F.H p with
      | none => rfl
      | some o => exact absurd np (A.ok.ne (by rw [z]; exact fun w => by cases w))
    obtain ⟨fp0, sl0, _, _⟩ := A.sl
    obtain ⟨o, fp, s, nd, fr⟩ := A.ext e
    have hn : p ∉ fp := fun w => by
      have w0 : p ∈ fp0 := At.asgO.Slots.same_fp s sl0 e.h ▸ w
      exact sl0.has p w0 np
    refine q (.o xs) r _ t G' H' m ⟨o, [p] ++ fp, .cons ⟨_, rfl, p, vs, rfl, rfl, k, da⟩ s, ?_, fun a ha => ?_⟩
    · rw [List.singleton_append, List.nodup_cons]
      exact ⟨hn, nd⟩
    · rcases List.mem_append.mp ha with w | w
      · have e : a = p := by simpa using w
        rw [e]
        exact ⟨g, .inl fH⟩
      · exact fr a w)
theorem hs_retP (he : PO X r e xs) (m : R (.o xs) r) : HS X r (.Return (some e) pos :: rest) N R := hs_cons (M := fun _ => False) (s1_retP he m) fun _ h => h.elim
/-- return x, x our list -/
theorem s1_retO (i : Nat) (m : R (.o xs) (r.set i .un)) (hr : r[i]? = some (.o xs) := by rfl) (hN : X.N[i]? = some x := by rfl) (hv : Vis X.env.scope x := by first | exact Or.inl rfl | exact Or.inr (Or.inl rfl) | exact Or.inr (Or.inr rfl)) (hd : (x == ("__debug__" : Str)) = false := by decide)
    (hcd : (x == ("__classdict__" : Str)) = false := by decide) : S1 X r (.Return (some (.Name x px)) pos) N R := fun F G t H nl A D n q => by
  obtain ⟨o, fp, s, nd, fr⟩ := A
  obtain ⟨v, f1, f0, f2, h1, h2, h3, h4⟩ := s.split hr
  obtain ⟨v, rfl, p, vs, rfl, rfl, k1, k2⟩ := h3
  have s' := h4 G H .un (some (.ref p)) [] (Same.refl G) (fun _ _ _ w => w) rfl
  subst h2
  have ep : (f1 ++ ([p] ++ f2)).Perm (p :: (f1 ++ ([] ++ f2))) := by simpa using List.perm_middle
  have hset : t.set i (some (.ref p)) = t := by
    obtain ⟨hlt, he⟩ := List.getElem?_eq_some_iff.mp h1
    rw [← he]; exact List.set_getElem_self hlt
  rw [hset] at s'
  refine oS (ps_ret (pe_var hN hv hd hcd)) ⟨_, h1, q (.o xs) (r.set i .un) _ t G H m ⟨o, [p] ++ (f1 ++ ([] ++ f2)), .cons ⟨_, rfl, p, vs, rfl, rfl, k1, k2⟩ s', ep.nodup_iff.mp nd, fun a ha => fr a (ep.mem_iff.mpr ha)⟩⟩
theorem hs_retO (i : Nat) (m : R (.o xs) (r.set i .un)) (hr : r[i]? = some (.o xs) := by rfl) (hN : X.N[i]? = some x := by rfl) (hv : Vis X.env.scope x := by first | exact Or.inl rfl | exact Or.inr (Or.inl rfl) | exact Or.inr (Or.inr rfl)) (hd : (x == ("__debug__" : Str)) = false := by decide)
    (hcd : (x == ("__classdict__" : Str)) = false := by decide) : HS X r (.Return (some (.Name x px)) pos :: rest) N R := hs_cons (M := fun _ => False) (s1_retO i m hr hN hv hd hcd) fun _ h => h.elim
/-- if -/
theorem s1_if {k : Bool} (hc : TQ X r c k) (h1 : k = true → HS X r body M R) (h2 : k = false → HS X r rest M R) : S1 X r (.If c body rest pos) M R := fun F G t H nl A D n q => by
  refine oS (ps_if cT cSs cSs) (hc F G t H A _ fun G' H' e => ?_)
  cases k with
  | true => exact h1 rfl F G' t H' nl (A.ext e) D n q
  | false => exact h2 rfl F G' t H' nl (A.ext e) D n q
/-- if c: .. with c false -/
theorem hs_no {bd : List Stmt} (hc : TQ X r c false) (h : HS X r rest N R) : HS X r (.If c bd [] pos :: rest) N R := hs_cons (M := fun r' => r' = r) (s1_if hc (fun z => by cases z) fun _ => hs_nil rfl) fun _ e => e ▸ h
/-- if c: .. [else: ..], the way known -/
theorem hs_if {k : Bool} {b1 b2 : List Stmt} (hc : TQ X r c k) (h1 : k = true → HS X r b1 M R) (h2 : k = false → HS X r b2 M R) (h : ∀ r', M r' → HS X r' rest N R) : HS X r (.If c b1 b2 pos :: rest) N R := hs_cons (s1_if hc h1 h2) h
end
end DL

/-! Part 5: loops, our lists changed, defs and their calls. -/
namespace DL
open PySem L2

/-! ### another entry: what is known now -/
section
variable {K : PySem.W.Frag} {F : Fr} {G G1 G' H H1 H' : Hp} {r r' : List Slot} {t t' : St}
theorem At.rebase (h : At K F G r t H) : At K { F with G := G } G r t H := by
  obtain ⟨k, sl⟩ := h
  exact ⟨⟨Same.refl G, k.gh, k.h, fun a _ hg => hg, k.ln⟩, sl⟩
theorem At.unbase (k : Ok F G1 H1) (h : At K { F with G := G1 } G' r' t' H') : At K F G' r' t' H' := by
  obtain ⟨o, sl⟩ := h
  exact ⟨⟨k.g.trans o.g, o.gh, o.h, fun a ha hg => o.nw a ha (k.nw a ha hg), o.ln⟩, sl⟩
end

/-! ### targets -/
@[irreducible] def tG (X : Cx) (tg : Expr) : TG := fun v t H Q => ∀ (pins : List (Addr × Obj)) (s : Shared) (u : Value), Inv X pins t H s → RelV v u → wpAny (model X.prog X.w) X.A (assign tg X.env u) (fun _ s' => ∃ t' H', Inv X pins t' H' s' ∧ Q t' H') X.xe s
theorem cG {X : Cx} {tg : Expr} : PG X tg (tG X tg) := ⟨fun pins s _ _ _ u _ I r h => by unfold tG at h; exact h pins s u I r⟩
theorem oG {X : Cx} {tg : Expr} {g : TG} (h : PG X tg g) {v : V} {t : St} {H : Hp} {Q : St → Hp → Prop} (q : g v t H Q) : tG X tg v t H Q := by unfold tG; exact fun pins s u I r => h.run pins s t H v u Q I r q
/-- the target takes d: the state behind it -/
def GQ (X : Cx) (r : List Slot) (tg : Expr) (d : D) (r' : List Slot) : Prop := ∀ (F : Fr) (G : Hp) (t : St) (H : Hp) (v : V), At X.K F G r t H → Dt X.K G v d → ∀ Q : St → Hp → Prop, (∀ t', At X.K F G r' t' H → Q t' H) → tG X tg v t H Q
@[irreducible] def tGs (X : Cx) (ts : List Expr) : TGs := fun vs t H Q => ∀ (pins : List (Addr × Obj)) (s : Shared) (us : List Value), Inv X pins t H s → Vals vs us → wpAny (model X.prog X.w) X.A (assignInOrder ((assignEach ts X.env).map (·.2)) us) (fun _ s' => ∃ t' H', Inv X pins t' H' s' ∧ Q t' H') X.xe s
theorem cGs {X : Cx} {ts : List Expr} : PGs X ts (tGs X ts) := ⟨fun pins s _ _ _ us _ I r h => by unfold tGs at h; exact h pins s us I r⟩
theorem oGs {X : Cx} {ts : List Expr} {g : TGs} (h : PGs X ts g) {vs : List V} {t : St} {H : Hp} {Q : St → Hp → Prop} (q : g vs t H Q) : tGs X ts vs t H Q := by unfold tGs; exact fun pins s us I r => h.run pins s t H vs us Q I r q
def GsQ (X : Cx) (r : List Slot) (ts : List Expr) (ds : List D) (r' : List Slot) : Prop := ∀ (F : Fr) (G : Hp) (t : St) (H : Hp) (vs : List V), At X.K F G r t H → DtAll X.K G vs ds → ∀ Q : St → Hp → Prop, (∀ t', At X.K F G r' t' H → Q t' H) → tGs X ts vs t H Q
section
variable {X : Cx} {r r1 r2 : List Slot} {e a b c tg it : Expr} {es ts : List Expr} {pos p px : Pos} {d d1 d2 : D} {ds xs ys : List D} {i j n : Int} {x : Str} {st : Stmt} {rest body : List Stmt} {N M : List Slot → Prop} {R : Slot → List Slot → Prop}
theorem gq_n (i : Nat) {s : Slot} (nd : X.N.Nodup) (hr : r[i]? = some s := by rfl) (hN : X.N[i]? = some x := by rfl) (hx : Loc X.env.scope x := by first | exact Or.inl rfl | exact Or.inr rfl) (hf : X.fn x = true ∨ X.env.scope.names.lookup x = some .local := by first | exact .inl rfl | exact .inr rfl) :
    GQ X r (.Name x px) d (r.set i (.d d)) := fun F G t H v A k Q q => oG (pg_name nd hN hx hf) (q _ (A.asg hr k))
theorem gqs_nil : GsQ X r [] [] r := fun F G t H vs A k Q q => by cases k; exact oGs pgs_nil ⟨rfl, q t A⟩
theorem gqs_cons (h : GQ X r tg d r1) (h' : GsQ X r1 ts ds r2) (hs : (assignEach (tg :: ts) X.env).map (·.2) = assign tg X.env :: (assignEach ts X.env).map (·.2) := by rfl) : GsQ X r (tg :: ts) (d :: ds) r2 := fun F G t H vs A k Q q => by
  cases k with
  | cons k1 k2 => exact oGs (pgs_cons cG cGs hs) ⟨_, _, rfl, h F G t H _ A k1 _ fun t1 A1 => h' F G t1 H _ A1 k2 Q q⟩
theorem gq_t {k : Nat} (h : GsQ X r ts ds r1) (hc : X.calm = true := by rfl) (hn : (assignEach ts X.env).length = ds.length := by rfl) (hst : (assignEach ts X.env).findIdx? (·.1) = none := by rfl) : GQ X r (.Tuple ts k px) (.tup ds) r1 := fun F G t H v A k Q q => by
  cases k with
  | tup h1 h2 => exact oG (pg_tup hc cGs hn hst) ⟨_, _, rfl, SqT.of (A.gh _ _ h1), h2.len, h F G t H _ A h2 Q q⟩
/-- target = e -/
theorem s1_asgT (he : PP X r e d) (hg : GQ X r tg d r1) (m : M r1) (hs : swapsWithSole [tg] e pos.line X.env = pure false := by rfl) (hw : swappedStores [tg] e X.env = pure none := by rfl) (h1 : (assignEach [tg] X.env).map (·.2) = [assign tg X.env] := by rfl) : S1 X r (.Assign [tg] e pos) M R := fun F G t H nl A D n q =>
  oS (ps_asg cE cG hs hw h1) (he F G t H A _ fun v G' H' e k => hg F G' t H' v (A.ext e) k _ fun t' A' => n r1 G' t' H' m A')
theorem hs_asgT (he : PP X r e d) (hg : GQ X r tg d r1) (k : HS X r1 rest N R) (hs : swapsWithSole [tg] e pos.line X.env = pure false := by rfl) (hw : swappedStores [tg] e X.env = pure none := by rfl) (h1 : (assignEach [tg] X.env).map (·.2) = [assign tg X.env] := by rfl) : HS X r (.Assign [tg] e pos :: rest) N R :=
  hs_cons (M := fun r' => r' = r1) (s1_asgT he hg rfl hs hw h1) fun _ e => e ▸ k
/-- a, b = e1, e2 (two locals) -/
theorem hs_par {y : Str} {py pt pt2 : Pos} {kt k2 : Nat} (i j : Nat) {s1 s2 : Slot} (nd : X.N.Nodup) (ha : PP X r a d1) (hb : PP X r b d2) (k : HS X ((r.set i (.d d1)).set j (.d d2)) rest N R) (hij : i ≠ j := by decide) (hr : r[i]? = some s1 := by rfl) (hr2 : r[j]? = some s2 := by rfl) (hN : X.N[i]? = some x := by rfl) (hN2 : X.N[j]? = some y := by rfl)
    (hc : X.calm = true := by rfl) (hx : X.env.scope.names.lookup x = some .local := by rfl) (hy : X.env.scope.names.lookup y = some .local := by rfl)
    (hw : swappedStores [.Tuple [.Name x px, .Name y py] kt pt] (.Tuple [a, b] k2 pt2) X.env = pure (some [x, y]) := by rfl) (hs : swapsWithSole [.Tuple [.Name x px, .Name y py] kt pt] (.Tuple [a, b] k2 pt2) pos.line X.env = pure false := by rfl)
    (hs1 : starEach [a, b] X.env = (false, eval a X.env) :: starEach [b] X.env := by rfl) (hs2 : starEach [b] X.env = (false, eval b X.env) :: starEach [] X.env := by rfl) :
    HS X r (.Assign [.Tuple [.Name x px, .Name y py] kt pt] (.Tuple [a, b] k2 pt2) pos :: rest) N R :=
  hs_cons (M := fun r' => r' = (r.set i (.d d1)).set j (.d d2)) (fun F G t H nl A D n q => oS (ps_par hc nd hN hN2 hij hx hy cA hw hs) (aq_cons ha (aq_cons hb aq_nil hs2) hs1 F G t H A _ fun vs G' H' e kk => by
    cases kk with
    | cons k1 k2 =>
      cases k2 with
      | cons k2 k3 =>
        cases k3
        exact ⟨_, _, rfl, n _ G' _ H' rfl (((A.ext e).asg hr k1).asg (by rw [List.getElem?_set_ne hij]; exact hr2) k2)⟩)) fun _ e => e ▸ k
/-- a call thrown away -/
theorem s1_exp (he : PP X r e d) (m : M r) (hs : swapsWith e none pos.line X.env = pure false := by rfl) : S1 X r (.Expr e pos) M R := fun F G t H nl A D n q => oS (ps_expr cE hs) (he F G t H A _ fun v G' H' e k => n r G' t H' m (A.ext e))
theorem hs_exp (he : PP X r e d) (k : HS X r rest N R) (hs : swapsWith e none pos.line X.env = pure false := by rfl) : HS X r (.Expr e pos :: rest) N R := hs_cons (M := fun r' => r' = r) (s1_exp he rfl hs) fun _ e => e ▸ k

/-! ### our lists changed -/
/-- the list in slot i takes other items -/
theorem At.upd {K : PySem.W.Frag} {F : Fr} {G : Hp} {t : St} {H : Hp} {i : Nat} (A : At K F G r t H) (hr : r[i]? = some (.o xs)) : ∃ p vs, t[i]? = some (some (.ref p)) ∧ H p = some (.lst vs) ∧ DtAll K G vs xs ∧ G p = none ∧
    ∀ G' H' vs' ys, Ext G H G' H' → DtAll K G' vs' ys → At K F G' (r.set i (.o ys)) t (L2.upd H' p (.lst vs')) := by
  obtain ⟨o, fp, s, nd, fr⟩ := A
  obtain ⟨v, f1, f0, f2, h1, h2, h3, h4⟩ := s.split hr
  obtain ⟨v, rfl, p, vs, rfl, rfl, k1, k2⟩ := h3
  have mp : p ∈ fp := by rw [h2]; simp
  have hset : t.set i (some (.ref p)) = t := by
    obtain ⟨hlt, he⟩ := List.getElem?_eq_some_iff.mp h1
    rw [← he]; exact List.set_getElem_self hlt
  have np : ∀ a, a ∈ f1 ++ f2 → a ≠ p := fun a ha e => by
    rw [h2, List.nodup_append] at nd
    obtain ⟨_, n2, n3⟩ := nd
    rw [List.nodup_append] at n2
    rcases List.mem_append.mp ha with z | z
    · exact n3 a z p (by simp) e
    · exact n2.2.2 p (by simp) a z e.symm
  refine ⟨p, vs, h1, k1, k2, (fr p mp).1, fun G' H' vs' ys e da => ?_⟩
  have gp : G' p = none := e.nw p (s.has p mp) (fr p mp).1
  have ok := o.ext e
  have s' := h4 G' (L2.upd H' p (.lst vs')) (.o ys) (some (.ref p)) [p] e.g (fun a o ha q => by rw [upd_ne (np a ha)]; exact e.h a o q) ⟨_, rfl, p, vs', rfl, rfl, upd_same, da⟩
  rw [hset] at s'
  have hF : F.H p = none ∨ p ∈ F.L := (fr p mp).2
  refine ⟨⟨ok.g, fun a o q => ?_, fun a o q nl => ?_, ok.nw, fun a ha => ?_⟩, _, s', by rw [← h2]; exact nd, fun a ha => ?_⟩
  · rw [upd_ne (ne_of_none q gp)]; exact ok.gh a o q
  · have ne : a ≠ p := fun z => by
      rcases hF with w | w
      · rw [z, w] at q; cases q
      · exact nl (z ▸ w)
    rw [upd_ne ne]; exact ok.h a o q nl
  · by_cases z : a = p
    · rw [z, upd_same]; exact fun w => by cases w
    · rw [upd_ne z]; exact ok.ln a ha
  · rw [← h2] at ha
    exact ⟨e.nw a (s.has a ha) (fr a ha).1, (fr a ha).2⟩
/-- xs.append(e) -/
theorem s1_app {apos : Pos} (i : Nat) (he : PP X r e d) (hz : xs.length < sizeLine) (m : M (r.set i (.o (xs ++ [d])))) (hr : r[i]? = some (.o xs) := by rfl) (hN : X.N[i]? = some x := by rfl) (hv : Vis X.env.scope x := by first | exact Or.inl rfl | exact Or.inr (Or.inl rfl) | exact Or.inr (Or.inr rfl)) (hd : (x == ("__debug__" : Str)) = false := by decide)
    (hcd : (x == ("__classdict__" : Str)) = false := by decide) (hsw : swapsWith (.Call (.Attribute (.Name x px) "append" apos) [e] [] p) none pos.line X.env = pure false := by rfl)
    (hpe : ∀ {to : TE} {t : TA}, PE X (.Name x px) to → PA X [e] t → PE X (.Call (.Attribute (.Name x px) "append" apos) [e] [] p) (tBM X.K "list" rAppend to t) := by exact fun ho ha => pe_bm PySem.F.plainAttrs_list PySem.F.slot_list_append PySem.F.type_list_append mt_append ho ha)
    (hs : starEach [e] X.env = (false, eval e X.env) :: starEach [] X.env := by rfl) : S1 X r (.Expr (.Call (.Attribute (.Name x px) "append" apos) [e] [] p) pos) M R := fun F G t H nl A D n q => by
  obtain ⟨l, vs, h1, h2, h3, h4, h5⟩ := A.upd hr
  refine oS (ps_expr (hpe (pe_var hN hv hd hcd) cA) hsw) ⟨_, h1, .inl ⟨rfl, vs, SqL.of h2⟩, aq_cons he aq_nil hs F G t H A _ fun ws G' H' ee k => ?_⟩
  cases k with
  | cons k1 k2 =>
    cases k2
    exact ⟨l, vs, _, rfl, rfl, ee.h _ _ h2, by rw [h3.len]; exact hz, n _ G' t _ m (h5 G' H' _ _ ee ((DtAll.mono ee.g _ _ h3).app (.cons k1 .nil)))⟩
theorem hs_app {apos : Pos} (i : Nat) (he : PP X r e d) (hz : xs.length < sizeLine) (k : HS X (r.set i (.o (xs ++ [d]))) rest N R) (hr : r[i]? = some (.o xs) := by rfl) (hN : X.N[i]? = some x := by rfl) (hv : Vis X.env.scope x := by first | exact Or.inl rfl | exact Or.inr (Or.inl rfl) | exact Or.inr (Or.inr rfl)) (hd : (x == ("__debug__" : Str)) = false := by decide)
    (hcd : (x == ("__classdict__" : Str)) = false := by decide) (hsw : swapsWith (.Call (.Attribute (.Name x px) "append" apos) [e] [] p) none pos.line X.env = pure false := by rfl)
    (hpe : ∀ {to : TE} {t : TA}, PE X (.Name x px) to → PA X [e] t → PE X (.Call (.Attribute (.Name x px) "append" apos) [e] [] p) (tBM X.K "list" rAppend to t) := by exact fun ho ha => pe_bm PySem.F.plainAttrs_list PySem.F.slot_list_append PySem.F.type_list_append mt_append ho ha)
    (hs : starEach [e] X.env = (false, eval e X.env) :: starEach [] X.env := by rfl) : HS X r (.Expr (.Call (.Attribute (.Name x px) "append" apos) [e] [] p) pos :: rest) N R :=
  hs_cons (M := fun r' => r' = r.set i (.o (xs ++ [d]))) (s1_app i he hz rfl hr hN hv hd hcd hsw hpe hs) fun _ e => e ▸ k
/-- xs[z] = e -/
theorem hs_put {z : Int} {jx : Nat} (i : Nat) (he : PP X r e d) (hi : PB X r b (.int z)) (hx : ixN xs.length z = some jx) (k : HS X (r.set i (.o (xs.set jx d))) rest N R) (hr : r[i]? = some (.o xs) := by rfl) (hN : X.N[i]? = some x := by rfl) (hv : Vis X.env.scope x := by first | exact Or.inl rfl | exact Or.inr (Or.inl rfl) | exact Or.inr (Or.inr rfl)) (hd : (x == ("__debug__" : Str)) = false := by decide)
    (hcd : (x == ("__classdict__" : Str)) = false := by decide)
    (hpg : ∀ {to ti : TE} {t : TSet}, PE X (.Name x px) to → PE X b ti → PSet X t → PG X (.Subscript (.Name x px) b p) (gSub to ti t) := by exact fun ho hi hs => pg_sub ho hi hs)
    (hs : swapsWithSole [.Subscript (.Name x px) b p] e pos.line X.env = pure false := by rfl) (hw : swappedStores [.Subscript (.Name x px) b p] e X.env = pure none := by rfl) (h1 : (assignEach [.Subscript (.Name x px) b p] X.env).map (·.2) = [assign (.Subscript (.Name x px) b p) X.env] := by rfl) :
    HS X r (.Assign [.Subscript (.Name x px) b p] e pos :: rest) N R :=
  hs_cons (M := fun r' => r' = r.set i (.o (xs.set jx d))) (fun F G t H nl A D n q => by
    obtain ⟨l, vs, g1, g2, g3, g4, g5⟩ := A.upd hr
    refine oS (ps_asg cE (hpg (pe_var hN hv hd hcd) cE set_list) hs hw h1) (he F G t H A _ fun v G1 H1 e1 k1 => ⟨_, g1, hi F G1 t H1 (A.ext e1) _ fun w G2 H2 e2 k2 => ?_⟩)
    cases k2
    have e := e1.trans e2
    exact ⟨l, vs, z, jx, rfl, rfl, e.h _ _ g2, by rw [g3.len]; exact hx, n _ G2 t _ rfl (g5 G2 H2 _ _ e (DtAll.set (Dt.mono e2.g _ _ k1) jx (DtAll.mono e.g _ _ g3)))⟩) fun _ e => e ▸ k

/-! ### for -/
/-- over range(n) -/
theorem s1_forR {fpos : Pos} (B : Bi X.mg) (i : Nat) {s : Nat → Slot} (nd : X.N.Nodup) (I : Nat → List Slot) (ha : PB X r a (.int n)) (hn : n < 2 ^ 62) (hn2 : -(2 ^ 62) ≤ n) (h0 : Le r (I 0)) (hb : ∀ k : Nat, (k : Int) < n → HS X ((I k).set i (.d (.int k))) body (fun r' => Le r' (I (k + 1))) R) (m : M (I n.toNat))
    (hr : ∀ k, (I k)[i]? = some (s k) := by intro _; rfl) (hN : X.N[i]? = some x := by rfl) (hx : Loc X.env.scope x := by first | exact Or.inl rfl | exact Or.inr rfl) (hf : X.fn x = true ∨ X.env.scope.names.lookup x = some .local := by first | exact .inl rfl | exact .inr rfl)
    (hp : PassesOwn (model X.prog X.w) X.A X.env X.xe := by exact PassesOwn.never) (hc : X.calm = true := by rfl) (hg : Gl X "range" := by rfl) (hs : starEach [a] X.env = [(false, eval a X.env)] := by rfl) (hfs : ∀ x, foldedSetIterable (.Call (.Name "range" p) [a] [] pos) X.env x = pure x := by intro _; rfl) :
    S1 X r (.For (.Name x px) (.Call (.Name "range" p) [a] [] pos) body [] fpos) M R := fun F G t H nl A D nx q => by
  refine oS (ps_for hp hc (pi_range1 hg B.range cA hs) (pg_name nd hN hx hf) cSs hfs) (ab1 ha hs F G t H A _ fun vs G1 H1 e1 k1 => ?_)
  cases k1 with
  | cons k1 k2 =>
    cases k2; cases k1
    refine ⟨n, rfl, hn2, hn, for_range (lo := 0) (n := n.toNat) (fun k t' H' => ∃ G', At X.K F G' (I k) t' H') ?_ ?_ ?_⟩
    · obtain ⟨G', _, A'⟩ := (A.ext e1).le h0 nl
      exact ⟨G', A'⟩
    · rintro k t' H' hk ⟨G', A'⟩
      have e0 : (0 : Int) + (k : Int) = (k : Int) := Int.zero_add _
      have A2 := A'.asg (v := .int ((0 : Int) + (k : Int))) (d := .int k) (hr k) (by rw [e0]; exact .int _)
      exact hb k (by omega) F G' _ H' nl A2 { D with nx := _, ct := _, bk := _ } (fun r2 G2 t2 H2 l A3 => by
        obtain ⟨G3, _, A4⟩ := A3.le l nl
        exact ⟨G3, A4⟩) q
    · rintro t' H' ⟨G', A'⟩
      exact nx _ G' t' H' m A'
/-- over range(a, b) -/
theorem s1_forR2 {fpos : Pos} {lo hi : Int} (B : Bi X.mg) (i : Nat) {s : Nat → Slot} (nd : X.N.Nodup) (I : Nat → List Slot) (ha : PB X r a (.int lo)) (hb' : PB X r b (.int hi)) (hn : -(2 ^ 62) ≤ lo ∧ lo < 2 ^ 62 ∧ -(2 ^ 62) ≤ hi ∧ hi < 2 ^ 62) (h0 : Le r (I 0)) (hb : ∀ k : Nat, lo + (k : Int) < hi → HS X ((I k).set i (.d (.int (lo + k)))) body (fun r' => Le r' (I (k + 1))) R) (m : M (I (hi - lo).toNat))
    (hr : ∀ k, (I k)[i]? = some (s k) := by intro _; rfl) (hN : X.N[i]? = some x := by rfl) (hx : Loc X.env.scope x := by first | exact Or.inl rfl | exact Or.inr rfl) (hf : X.fn x = true ∨ X.env.scope.names.lookup x = some .local := by first | exact .inl rfl | exact .inr rfl)
    (hp : PassesOwn (model X.prog X.w) X.A X.env X.xe := by exact PassesOwn.never) (hc : X.calm = true := by rfl) (hg : Gl X "range" := by rfl) (hs : starEach [a, b] X.env = [(false, eval a X.env), (false, eval b X.env)] := by rfl) (hs2 : starEach [b] X.env = [(false, eval b X.env)] := by rfl) (hfs : ∀ x, foldedSetIterable (.Call (.Name "range" p) [a, b] [] pos) X.env x = pure x := by intro _; rfl) :
    S1 X r (.For (.Name x px) (.Call (.Name "range" p) [a, b] [] pos) body [] fpos) M R := fun F G t H nl A D nx q => by
  refine oS (ps_for hp hc (pi_range2 hg B.range cA hs hs2) (pg_name nd hN hx hf) cSs hfs) (ab2 ha hb' (by rw [hs, hs2]) hs2 F G t H A _ fun vs G1 H1 e1 k1 => ?_)
  cases k1 with
  | cons k1 k2 =>
    cases k2 with
    | cons k2 k3 =>
      cases k3; cases k1; cases k2
      refine ⟨lo, hi, rfl, hn, for_range (lo := lo) (n := (hi - lo).toNat) (fun k t' H' => ∃ G', At X.K F G' (I k) t' H') ?_ ?_ ?_⟩
      · obtain ⟨G', _, A'⟩ := (A.ext e1).le h0 nl
        exact ⟨G', A'⟩
      · rintro k t' H' hk ⟨G', A'⟩
        have A2 := A'.asg (v := .int (lo + (k : Int))) (d := .int (lo + k)) (hr k) (.int _)
        exact hb k (by omega) F G' _ H' nl A2 { D with nx := _, ct := _, bk := _ } (fun r2 G2 t2 H2 l A3 => by
          obtain ⟨G3, _, A4⟩ := A3.le l nl
          exact ⟨G3, A4⟩) q
      · rintro t' H' ⟨G', A'⟩
        exact nx _ G' t' H' m A'
/-- over a list -/
theorem s1_forL {fpos : Pos} (I J : Nat → List Slot) (ha : PP X r it (.lst ds)) (h0 : Le r (I 0)) (hg : ∀ (k : Nat) (d : D), ds[k]? = some d → GQ X (I k) tg d (J k)) (hb : ∀ (k : Nat) (d : D), ds[k]? = some d → HS X (J k) body (fun r' => Le r' (I (k + 1))) R) (m : M (I ds.length))
    (hp : PassesOwn (model X.prog X.w) X.A X.env X.xe := by exact PassesOwn.never) (hc : X.calm = true := by rfl) (hfs : ∀ x, foldedSetIterable it X.env x = pure x := by intro _; rfl) :
    S1 X r (.For tg it body [] fpos) M R := fun F G t H nl A D nx q => by
  refine oS (ps_for hp hc (pi_list cE) cG cSs hfs) (ha F G t H A _ fun v G1 H1 e1 k1 => ?_)
  cases k1 with
  | @lst l vs _ h1 h2 =>
    have A1 := A.ext e1
    refine ⟨l, rfl, ⟨vs, SqL.of (A1.gh _ _ h1)⟩, for_list (K := X.K) (a := l) (xs := vs) (fun k t' H' => ∃ G', Same G1 G' ∧ At X.K F G' (I k) t' H') ?_ (fun k t' H' _ ⟨G', s', A'⟩ => SqL.of (A'.gh _ _ (s' _ _ h1))) ?_ ?_⟩
    · obtain ⟨G', s', A'⟩ := A1.le h0 nl
      exact ⟨G', s', A'⟩
    · rintro k w t' H' hk ⟨G', s', A'⟩
      obtain ⟨d, hd, kd⟩ := h2.get' hk
      refine hg k d hd F G' t' H' w A' (Dt.mono s' _ _ kd) _ fun t2 A2 => ?_
      refine hb k d hd { F with G := G' } G' t2 H' nl A2.rebase { D with nx := _, ct := _, bk := _ } (fun r3 G3 t3 H3 l A3 => ?_) (fun s r3 v3 t3 G3 H3 hR A3 => q s r3 v3 t3 G3 H3 hR (At.unbase A2.ok A3))
      obtain ⟨G4, s4, A4⟩ := A3.le l nl
      exact ⟨G4, s'.trans (A4.ok.g), At.unbase A2.ok A4⟩
    · rintro t' H' ⟨G', s', A'⟩
      rw [h2.len] at A'
      exact nx _ G' t' H' m A'
/-- over a tuple -/
theorem s1_forT {fpos : Pos} (I J : Nat → List Slot) (ha : PP X r it (.tup ds)) (h0 : Le r (I 0)) (hg : ∀ (k : Nat) (d : D), ds[k]? = some d → GQ X (I k) tg d (J k)) (hb : ∀ (k : Nat) (d : D), ds[k]? = some d → HS X (J k) body (fun r' => Le r' (I (k + 1))) R) (m : M (I ds.length))
    (hp : PassesOwn (model X.prog X.w) X.A X.env X.xe := by exact PassesOwn.never) (hc : X.calm = true := by rfl) (hfs : ∀ x, foldedSetIterable it X.env x = pure x := by intro _; rfl) :
    S1 X r (.For tg it body [] fpos) M R := fun F G t H nl A D nx q => by
  refine oS (ps_for hp hc (pi_tup cE) cG cSs hfs) (ha F G t H A _ fun v G1 H1 e1 k1 => ?_)
  cases k1 with
  | @tup l vs _ h1 h2 =>
    have A1 := A.ext e1
    refine ⟨l, rfl, ⟨vs, SqT.of (A1.gh _ _ h1)⟩, for_tup (K := X.K) (a := l) (xs := vs) (fun k t' H' => ∃ G', Same G1 G' ∧ At X.K F G' (I k) t' H') ?_ (fun k t' H' _ ⟨G', s', A'⟩ => SqT.of (A'.gh _ _ (s' _ _ h1))) ?_ ?_⟩
    · obtain ⟨G', s', A'⟩ := A1.le h0 nl
      exact ⟨G', s', A'⟩
    · rintro k w t' H' hk ⟨G', s', A'⟩
      obtain ⟨d, hd, kd⟩ := h2.get' hk
      refine hg k d hd F G' t' H' w A' (Dt.mono s' _ _ kd) _ fun t2 A2 => ?_
      refine hb k d hd { F with G := G' } G' t2 H' nl A2.rebase { D with nx := _, ct := _, bk := _ } (fun r3 G3 t3 H3 l A3 => ?_) (fun s r3 v3 t3 G3 H3 hR A3 => q s r3 v3 t3 G3 H3 hR (At.unbase A2.ok A3))
      obtain ⟨G4, s4, A4⟩ := A3.le l nl
      exact ⟨G4, s'.trans (A4.ok.g), At.unbase A2.ok A4⟩
    · rintro t' H' ⟨G', s', A'⟩
      rw [h2.len] at A'
      exact nx _ G' t' H' m A'
end
end DL

/-! Part 6: enumerate, while, comprehensions, defs and their calls. -/
namespace DL
open PySem L2
section
variable {X : Cx} {r r1 r2 : List Slot} {e a b c tg it elt : Expr} {es ts ifs : List Expr} {pos p px : Pos} {d d1 d2 : D} {ds xs ys : List D} {i j n : Int} {x : Str} {st : Stmt} {rest body : List Stmt} {N M : List Slot → Prop} {R : Slot → List Slot → Prop}
/-- for (a, b) in enumerate(xs) -/
theorem s1_forE {fpos : Pos} {kt : Nat} {tpos : Pos} (B : Bi X.mg) (I J : Nat → List Slot) (ha : PP X r it (.lst ds)) (h0 : Le r (I 0)) (hg : ∀ (k : Nat) (d : D), ds[k]? = some d → GQ X (I k) (.Tuple ts kt tpos) (.tup [.int k, d]) (J k)) (hb : ∀ (k : Nat) (d : D), ds[k]? = some d → HS X (J k) body (fun r' => Le r' (I (k + 1))) R) (m : M (I ds.length))
    (hp : PassesOwn (model X.prog X.w) X.A X.env X.xe := by exact PassesOwn.never) (hc : X.calm = true := by rfl) (hgl : Gl X "enumerate" := by rfl) (hs : starEach [it] X.env = [(false, eval it X.env)] := by rfl) (hfs : ∀ x, foldedSetIterable (.Call (.Name "enumerate" p) [it] [] pos) X.env x = pure x := by intro _; rfl) :
    S1 X r (.For (.Tuple ts kt tpos) (.Call (.Name "enumerate" p) [it] [] pos) body [] fpos) M R := fun F G t H nl A D nx q => by
  refine oS (ps_for hp hc (pi_enum hgl B.enum cA hs) cG cSs hfs) (aq_cons ha aq_nil hs F G t H A _ fun vs G1 H1 e1 k1 => ?_)
  cases k1 with
  | cons k1 k2 =>
    cases k2
    cases k1 with
    | @lst l vs _ h1 h2 =>
      have A1 := A.ext e1
      refine ⟨l, vs, rfl, SqL.of (A1.gh _ _ h1), fun k m t' H' => m = vs.length - k ∧ k ≤ vs.length ∧ ∃ G', Same G1 G' ∧ At X.K F G' (I k) t' H', ⟨vs.length, by simp, Nat.zero_le _, ?_⟩, ?_⟩
      · obtain ⟨G', s', A'⟩ := A1.le h0 nl
        exact ⟨G', s', A'⟩
      · rintro k m t' H' ⟨rfl, hk, G', s', A'⟩
        have hS : SqL X.K H' l vs := SqL.of (A'.gh _ _ (s' _ _ h1))
        by_cases hlt : k < vs.length
        · refine .inr ⟨⟨vs, vs[k], hS, by simp [hlt]⟩, fun t2 H2 => ∃ G2, Same G1 G2 ∧ At X.K F G2 (I (k + 1)) t2 H2, fun t2 H2 z => ⟨vs.length - (k + 1), by omega, rfl, hlt, z⟩, fun w H2 y => ?_⟩
          obtain ⟨T, w0, rfl, hT, rfl, hy⟩ := y
          have hk' := hy vs hS
          obtain ⟨d, hd, kd⟩ := h2.get' hk'
          have e2 : Ext G' H' (upd G' T (.tup [.int (k : Nat), w0])) (upd H' T (.tup [.int (k : Nat), w0])) := Ext.new A'.gh hT
          have A2 := A'.ext e2
          refine hg k d hd F _ t' _ (.ref T) A2 (.tup upd_same (.cons (.int _) (.cons (Dt.mono (s'.trans e2.g) _ _ kd) .nil))) _ fun t2 A3 => ?_
          refine hb k d hd { F with G := upd G' T (.tup [.int (k : Nat), w0]) } _ t2 _ nl A3.rebase { D with nx := _, ct := _, bk := _ } (fun r3 G3 t3 H3 l A4 => ?_) (fun s r3 v3 t3 G3 H3 hR A4 => q s r3 v3 t3 G3 H3 hR (At.unbase A3.ok A4))
          obtain ⟨G5, s5, A5⟩ := A4.le l nl
          exact ⟨G5, (s'.trans e2.g).trans A5.ok.g, At.unbase A3.ok A5⟩
        · have e : k = vs.length := by omega
          subst e
          refine .inl ⟨⟨vs, hS, Nat.le_refl _⟩, ?_⟩
          rw [h2.len] at A'
          exact nx _ G' t' H' m A'
/-- while: the states by a parameter z, with a measure -/
theorem s1_while {Z : Type} (W : Z → List Slot) (mu : Z → Nat) (z0 : Z) (k : Z → Bool) (P : Z → Prop) (h0 : Le r (W z0)) (p0 : P z0) (hc : ∀ z, P z → TQ X (W z) c (k z)) (hb : ∀ z, P z → k z = true → HS X (W z) body (fun r' => ∃ z', P z' ∧ mu z' < mu z ∧ Le r' (W z')) R) (m : ∀ z, P z → k z = false → M (W z))
    (hp : PassesOwn (model X.prog X.w) X.A X.env X.xe := by exact PassesOwn.never) : S1 X r (.While c body [] pos) M R := fun F G t H nl A D nx q => by
  refine oS (ps_while hp cT cSs) ⟨fun m t' H' => ∃ z G', P z ∧ m = mu z ∧ At X.K F G' (W z) t' H', ⟨mu z0, ?_⟩, ?_⟩
  · obtain ⟨G', s', A'⟩ := A.le h0 nl
    exact ⟨z0, G', p0, rfl, A'⟩
  · rintro m' t' H' ⟨z, G', pz, rfl, A'⟩
    refine hc z pz F G' t' H' A' _ fun G2 H2 e2 => ?_
    have A2 := A'.ext e2
    cases hk : k z with
    | true =>
      refine ⟨fun t3 H3 => ∃ z' G3, P z' ∧ mu z' < mu z ∧ At X.K F G3 (W z') t3 H3, fun t3 H3 ⟨z', G3, p', l, A3⟩ => ⟨mu z', l, z', G3, p', rfl, A3⟩, ?_⟩
      exact hb z pz hk F G2 t' H2 nl A2 { D with nx := _, ct := _, bk := _ } (fun r3 G3 t3 H3 ⟨z', p', l, le⟩ A3 => by
        obtain ⟨G4, _, A4⟩ := A3.le le nl
        exact ⟨z', G4, p', l, A4⟩) q
    | false => exact nx _ G2 t' H2 (m z pz hk) A2

/-! ### comprehensions -/
/-- the block's own names are forgotten -/
def wipeR (r : List Slot) : List Nat → List Slot
  | [] => r
  | v :: vs => (wipeR r vs).set v .un
theorem Slots.setUn {K : PySem.W.Frag} {G H : Hp} {r : List Slot} {t : St} {fp : List Addr} (h : Slots K G H r t fp) (i : Nat) (o : Option V) : ∃ fp', Slots K G H (r.set i .un) (t.set i o) fp' ∧ (fp.Nodup → fp'.Nodup) ∧ ∀ a, a ∈ fp' → a ∈ fp := by
  by_cases hi : i < r.length
  · obtain ⟨v, f1, f0, f2, h1, h2, h3, h4⟩ := h.split (List.getElem?_eq_getElem hi)
    refine ⟨f1 ++ ([] ++ f2), h4 G H .un o [] (Same.refl G) (fun _ _ _ w => w) rfl, fun nd => ?_, fun a ha => ?_⟩
    · rw [h2] at nd
      exact nodup_mid nd (by simp) fun x hx => by cases hx
    · rw [h2]
      rcases List.mem_append.mp ha with z | z
      · exact List.mem_append_left _ z
      · exact List.mem_append_right _ (List.mem_append_right _ (by simpa using z))
  · have e1 : r.set i .un = r := List.set_eq_of_length_le (by omega)
    have e2 : t.set i o = t := List.set_eq_of_length_le (by rw [h.len]; omega)
    rw [e1, e2]
    exact ⟨fp, h, id, fun _ h => h⟩
theorem At.wipe {K : PySem.W.Frag} {F : Fr} {G : Hp} {t : St} {H : Hp} (A : At K F G r t H) : ∀ vs : List Nat, At K F G (wipeR r vs) (wipe t vs) H
  | [] => A
  | v :: vs => by
    obtain ⟨k, fp, s, nd, fr⟩ := At.wipe A vs
    obtain ⟨fp', s', n', m'⟩ := s.setUn v none
    exact ⟨k, fp', s', n' nd, fun a ha => fr a (m' a ha)⟩
/-- what a comprehension has made: which turns give, what they give -/
def madeD (f : Nat → Bool) (g : Nat → D) (k : Nat) : List D := ((List.range k).filter f).map g
theorem madeD_yes {f : Nat → Bool} {g : Nat → D} {k : Nat} (h : f k = true) : madeD f g (k + 1) = madeD f g k ++ [g k] := by
  unfold madeD
  rw [List.range_succ, List.filter_append, List.map_append, List.filter_cons, if_pos h]
  rfl
theorem madeD_no {f : Nat → Bool} {g : Nat → D} {k : Nat} (h : f k = false) : madeD f g (k + 1) = madeD f g k := by
  unfold madeD
  rw [List.range_succ, List.filter_append, List.filter_cons, if_neg (by rw [h]; decide)]
  simp
theorem madeD_len (f : Nat → Bool) (g : Nat → D) (k : Nat) : (madeD f g k).length ≤ k := by
  unfold madeD
  rw [List.length_map]
  exact Nat.le_trans (List.length_filter_le ..) (by rw [List.length_range]; exact Nat.le_refl _)
/-- the block's context -/
abbrev Blk (X : Cx) (scope : Scope) (s : Shared) (H : Hp) (C : Addr) (cl : List (Str × Addr)) (fp : List Addr) : Cx := X.blk s H scope (compEnvC scope cl C X.env) fp
@[irreducible] def tTs (X : Cx) (ifs : List Expr) : TT := fun t H Q => ∀ (pins : List (Addr × Obj)) (s : Shared), Inv X pins t H s →
    wpAny (model X.prog X.w) X.A (forIn ifs true fun c r => if r = true then do let ok ← isTrue c X.env (eval c X.env); pure (ForInStep.yield ok) else pure (ForInStep.yield r)) (TP X pins t Q) X.xe s
theorem cTs {X : Cx} : PTs X ifs (tTs X ifs) := ⟨fun pins s _ _ _ I h => by unfold tTs at h; exact h pins s I⟩
theorem oTs {X : Cx} {t : TT} (h : PTs X ifs t) {u : St} {H : Hp} {Q : Bool → Hp → Prop} (q : t u H Q) : tTs X ifs u H Q := by unfold tTs; exact fun pins s I => h.run pins s u H Q I q
/-- a clause's tests -/
def FQ (X : Cx) (r : List Slot) (ifs : List Expr) (b : Bool) : Prop := ∀ (F : Fr) (G : Hp) (t : St) (H : Hp), At X.K F G r t H → ∀ Q : Bool → Hp → Prop, (∀ G' H', Ext G H G' H' → Q b H') → tTs X ifs t H Q
theorem fq_nil : FQ X r [] true := fun F G t H A Q q => oTs pts_nil (q G H (Ext.refl A.gh))
theorem fq_one {k : Bool} (h : TQ X r c k) : FQ X r [c] k := fun F G t H A Q q => oTs (pts_one cT) (h F G t H A Q q)
/-- readings over every start of the block -/
def bE (X : Cx) (scope : Scope) (e : Expr) : TE := fun t H Q => ∀ s H' C cl fp, tE (Blk X scope s H' C cl fp) e t H Q
def bTs (X : Cx) (scope : Scope) (ifs : List Expr) : TT := fun t H Q => ∀ s H' C cl fp, tTs (Blk X scope s H' C cl fp) ifs t H Q
def bG (X : Cx) (scope : Scope) (tg : Expr) : TG := fun v t H Q => ∀ s H' C cl fp, tG (Blk X scope s H' C cl fp) tg v t H Q
/-- behind k turns: the new list at L -/
structure Cw (K : PySem.W.Frag) (G1 H1 : Hp) (f : Nat → Bool) (g : Nat → D) (L : Addr) (k : Nat) (H : Hp) : Prop where
  ex : ∃ G vs, Ext G1 H1 G H ∧ G L = none ∧ H L = some (.lst vs) ∧ DtAll K G vs (madeD f g k)
theorem cw_start {K : PySem.W.Frag} {G1 H1 : Hp} {f : Nat → Bool} {g : Nat → D} {L : Addr} (e : Same G1 H1) (h : H1 L = none) : Cw K G1 H1 f g L 0 (upd H1 L (.lst [])) :=
  ⟨G1, [], Ext.newO e h, e.free h, upd_same, .nil⟩
theorem wipe1 {t : St} {j : Nat} {v : Option V} : wipe ((wipe t [j]).set j v) [j] = wipe t [j] := by
  show ((t.set j none).set j v).set j none = t.set j none
  rw [List.set_set, List.set_set]
theorem At.in1 {K : PySem.W.Frag} {F : Fr} {G : Hp} {t : St} {H : Hp} {j : Nat} {s : Slot} {v : V} (A : At K F G r t H) (hr : r[j]? = some s) (k : Dt K G v d) : At K F G (r.set j (.d d)) ((L2.wipe t [j]).set j (some v)) H := by
  have e : r.set j (.d d) = (wipeR r [j]).set j (.d d) := by
    show _ = (r.set j .un).set j (.d d)
    rw [List.set_set]
  rw [e]
  have hj : j < r.length := (List.getElem?_eq_some_iff.mp hr).1
  exact (A.wipe [j]).asg (s := .un) (by show (r.set j .un)[j]? = _; rw [List.getElem?_set_self hj]) k
theorem cw_turn {scope : Scope} {F : Fr} {G1 : Hp} {t : St} {H1 H' : Hp} {f : Nat → Bool} {g : Nat → D} {L : Addr} {k j : Nat} {s : Slot} {v : V} (A : At X.K F G1 r t H1) (hr : r[j]? = some s) (hL : H1 L = none) (c : Cw X.K G1 H1 f g L k H') (hk : k < sizeLine)
    (kd : ∀ G', Ext G1 H1 G' H' → Dt X.K G' v d) (ht : ∀ s H C cl fp, FQ (Blk X scope s H C cl fp) (r.set j (.d d)) ifs (f k)) (he : f k = true → ∀ s H C cl fp, PP (Blk X scope s H C cl fp) (r.set j (.d d)) elt (g k)) :
    gName j v (wipe t [j]) H' fun t2 H2 => wipe t2 [j] = wipe t [j] ∧ bTs X scope ifs t2 H2 fun b H3 => if b = true then bE X scope elt t2 H3 fun y H4 => ∃ acc, H4 L = some (.lst acc) ∧ acc.length < sizeLine ∧ Cw X.K G1 H1 f g L (k + 1) (upd H4 L (.lst (acc ++ [y]))) else Cw X.K G1 H1 f g L (k + 1) H3 := by
  obtain ⟨G', vs, e, gl, hl, da⟩ := c
  have A' := A.ext e
  refine ⟨wipe1, fun s0 H0 C cl fp => ht s0 H0 C cl fp F G' _ H' (A'.in1 hr (kd G' e)) _ fun G3 H3 e3 => ?_⟩
  have gl3 : G3 L = none := e3.nw L (by rw [hl]; exact fun z => by cases z) gl
  cases hf : f k with
  | true =>
    show bE X scope elt _ H3 _
    refine fun s0 H0 C cl fp => he hf s0 H0 C cl fp F G3 _ H3 ((A'.ext e3).in1 hr (Dt.mono e3.g _ _ (kd G' e))) _ fun y G4 H4 e4 ky => ?_
    have e5 := (e.trans e3).trans e4
    have hl4 : H4 L = some (.lst vs) := e4.h _ _ (e3.h _ _ hl)
    have gl4 : G4 L = none := e4.nw L (by rw [e3.h _ _ hl]; exact fun z => by cases z) gl3
    refine ⟨vs, hl4, ?_, G4, vs ++ [y], ⟨e5.g, fun a o q => ?_, fun a o q => ?_, e5.nw⟩, gl4, upd_same, ?_⟩
    · rw [da.len]
      exact Nat.lt_of_le_of_lt (madeD_len f g k) hk
    · rw [upd_ne (ne_of_none q gl4)]; exact e5.gh a o q
    · rw [upd_ne (ne_of_none q hL)]; exact e5.h a o q
    · rw [madeD_yes hf]
      exact (DtAll.mono (e3.g.trans e4.g) _ _ da).app (.cons ky .nil)
  | false =>
    show Cw X.K G1 H1 f g L (k + 1) H3
    exact ⟨G3, vs, e.trans e3, gl3, e3.h _ _ hl, by rw [madeD_no hf]; exact DtAll.mono e3.g _ _ da⟩
theorem cw_end {K : PySem.W.Frag} {G1 H1 G H' : Hp} {H : Hp} {f : Nat → Bool} {g : Nat → D} {L : Addr} {k : Nat} {Q : VK} (e1 : Ext G H G1 H1) (hL : H1 L = none) (c : Cw K G1 H1 f g L k H')
    (q : ∀ p vs G' H', Ext G H G' H' → H p = none → G' p = none → H' p = some (.lst vs) → DtAll K G' vs (madeD f g k) → Q (.ref p) H') : Q (.ref L) H' := by
  obtain ⟨G', vs, e, gl, hl, da⟩ := c
  exact q L vs G' H' (e1.trans e) (e1.h.free hL) gl hl da
/-- what a comprehension's own name asks -/
abbrev BlkN (X : Cx) (scope : Scope) (x : Str) (px : Pos) (j : Nat) : Prop := ∀ (s : Shared) (H : Hp) (C : Addr) (cl : List (Str × Addr)) (fp : List Addr), PG (Blk X scope s H C cl fp) (.Name x px) (gName j)
theorem bg_of {scope : Scope} {j : Nat} (h : BlkN X scope x px j) : ∀ (s : Shared) (H : Hp) (C : Addr) (cl : List (Str × Addr)) (fp : List Addr), PG (X.blk s H scope (compEnvC scope cl C X.env) fp) (.Name x px) (gName j) := h
theorem bts_of {scope : Scope} : ∀ (s : Shared) (H : Hp) (C : Addr) (cl : List (Str × Addr)) (fp : List Addr), PTs (X.blk s H scope (compEnvC scope cl C X.env) fp) ifs (bTs X scope ifs) := fun s H C cl fp => ⟨fun pins s' _ _ _ I h => cTs.run pins s' _ _ _ I (h s H C cl fp)⟩
theorem be_of {scope : Scope} : ∀ (s : Shared) (H : Hp) (C : Addr) (cl : List (Str × Addr)) (fp : List Addr), PE (X.blk s H scope (compEnvC scope cl C X.env) fp) elt (bE X scope elt) := fun s H C cl fp => ⟨fun pins s' _ _ _ I h => cE.run pins s' _ _ _ I (h s H C cl fp)⟩
/-- the value of [elt for x in range(n) if ..]: its reading -/
theorem lcR {scope : Scope} {j : Nat} {s : Slot} {Q : VK} {F : Fr} {G : Hp} {t : St} {H : Hp} (A : At X.K F G r t H) (hr : r[j]? = some s) (f : Nat → Bool) (g : Nat → D) (ha : PB X r a (.int n)) (hn : n ≤ 16777216) (hn2 : -(2 ^ 62) ≤ n)
    (ht : ∀ k : Nat, (k : Int) < n → ∀ s H C cl fp, FQ (Blk X scope s H C cl fp) (r.set j (.d (.int k))) ifs (f k)) (he : ∀ k : Nat, (k : Int) < n → f k = true → ∀ s H C cl fp, PP (Blk X scope s H C cl fp) (r.set j (.d (.int k))) elt (g k))
    (hs : starEach [a] X.env = [(false, eval a X.env)]) (q : ∀ p vs G' H', Ext G H G' H' → H p = none → G' p = none → H' p = some (.lst vs) → DtAll X.K G' vs (madeD f g n.toNat) → Q (.ref p) H') :
    tLc (iRng1 (tAr X [a])) (gName j) (bTs X scope ifs) (bE X scope elt) [j] t H Q := by
  refine ab1 ha hs F G t H A _ fun vs G1 H1 e1 k1 => ?_
  cases k1 with
  | cons k1 k2 =>
    cases k2; cases k1
    have A1 := A.ext e1
    refine ⟨n, rfl, hn2, by omega, fun L hL => lc_range (lo := 0) (n := n.toNat) (Cw X.K G1 H1 f g L) (cw_start A1.gh hL) (fun k H' hk c => ?_) fun H' c => cw_end e1 hL c q⟩
    have e0 : (0 : Int) + (k : Int) = (k : Int) := Int.zero_add _
    rw [e0]
    exact cw_turn (d := .int k) A1 hr hL c (by rw [sizeLine_eq]; omega) (fun _ _ => .int _) (ht k (by omega)) (he k (by omega))
theorem lcL {scope : Scope} {j : Nat} {s : Slot} {Q : VK} {F : Fr} {G : Hp} {t : St} {H : Hp} (A : At X.K F G r t H) (hr : r[j]? = some s) (f : Nat → Bool) (g : Nat → D) (ha : PP X r a (.lst ds)) (hn : ds.length ≤ sizeLine)
    (ht : ∀ (k : Nat) (d : D), ds[k]? = some d → ∀ s H C cl fp, FQ (Blk X scope s H C cl fp) (r.set j (.d d)) ifs (f k)) (he : ∀ (k : Nat) (d : D), ds[k]? = some d → f k = true → ∀ s H C cl fp, PP (Blk X scope s H C cl fp) (r.set j (.d d)) elt (g k))
    (q : ∀ p vs G' H', Ext G H G' H' → H p = none → G' p = none → H' p = some (.lst vs) → DtAll X.K G' vs (madeD f g ds.length) → Q (.ref p) H') :
    tLc (iList X.K (tE X a)) (gName j) (bTs X scope ifs) (bE X scope elt) [j] t H Q := by
  refine ha F G t H A _ fun v G1 H1 e1 k1 => ?_
  cases k1 with
  | @lst l vs _ h1 h2 =>
    have A1 := A.ext e1
    have hS := A1.gh _ _ h1
    refine ⟨l, rfl, ⟨vs, SqL.of hS⟩, fun L hL => lc_list (xs := vs) (Cw X.K G1 H1 f g L) (cw_start A1.gh hL) (fun k H' _ c => by obtain ⟨_, _, e, _⟩ := c; exact SqL.of (e.h _ _ hS)) (fun k w H' hk c => ?_) fun H' c => cw_end e1 hL (by rw [h2.len] at c; exact c) q⟩
    obtain ⟨d, hd, kd⟩ := h2.get' hk
    have hlt : k < ds.length := (List.getElem?_eq_some_iff.mp hd).1
    exact cw_turn (d := d) A1 hr hL c (by omega) (fun G' e => Dt.mono e.g _ _ kd) (ht k d hd) (he k d hd)
theorem lcB {scope : Scope} {j : Nat} {s : Slot} {Q : VK} {F : Fr} {G : Hp} {t : St} {H : Hp} (A : At X.K F G r t H) (hr : r[j]? = some s) (f : Nat → Bool) (g : Nat → D) (ha : PB X r a (.lst ds)) (hsc : ∀ d, d ∈ ds → Sc d) (hn : ds.length ≤ sizeLine)
    (ht : ∀ (k : Nat) (d : D), ds[k]? = some d → ∀ s H C cl fp, FQ (Blk X scope s H C cl fp) (r.set j (.d d)) ifs (f k)) (he : ∀ (k : Nat) (d : D), ds[k]? = some d → f k = true → ∀ s H C cl fp, PP (Blk X scope s H C cl fp) (r.set j (.d d)) elt (g k))
    (q : ∀ p vs G' H', Ext G H G' H' → H p = none → G' p = none → H' p = some (.lst vs) → DtAll X.K G' vs (madeD f g ds.length) → Q (.ref p) H') :
    tLc (iList X.K (tE X a)) (gName j) (bTs X scope ifs) (bE X scope elt) [j] t H Q := by
  refine ha F G t H A _ fun v G1 H1 e1 k1 => ?_
  cases k1 with
  | @lst l vs _ h1 h2 =>
    have A1 := A.ext e1
    refine ⟨l, rfl, ⟨vs, SqL.of h1⟩, fun L hL => lc_list (xs := vs) (Cw X.K G1 H1 f g L) (cw_start A1.gh hL) (fun k H' _ c => by obtain ⟨_, _, e, _⟩ := c; exact SqL.of (e.h _ _ h1)) (fun k w H' hk c => ?_) fun H' c => cw_end e1 hL (by rw [h2.len] at c; exact c) q⟩
    obtain ⟨d, hd, kd⟩ := h2.get' hk
    have hlt : k < ds.length := (List.getElem?_eq_some_iff.mp hd).1
    exact cw_turn (d := d) A1 hr hL c (by omega) (fun G' e => (hsc d (List.mem_of_getElem? hd)).any kd) (ht k d hd) (he k d hd)
theorem lcT {scope : Scope} {j : Nat} {s : Slot} {Q : VK} {F : Fr} {G : Hp} {t : St} {H : Hp} (A : At X.K F G r t H) (hr : r[j]? = some s) (f : Nat → Bool) (g : Nat → D) (ha : PP X r a (.tup ds)) (hn : ds.length ≤ sizeLine)
    (ht : ∀ (k : Nat) (d : D), ds[k]? = some d → ∀ s H C cl fp, FQ (Blk X scope s H C cl fp) (r.set j (.d d)) ifs (f k)) (he : ∀ (k : Nat) (d : D), ds[k]? = some d → f k = true → ∀ s H C cl fp, PP (Blk X scope s H C cl fp) (r.set j (.d d)) elt (g k))
    (q : ∀ p vs G' H', Ext G H G' H' → H p = none → G' p = none → H' p = some (.lst vs) → DtAll X.K G' vs (madeD f g ds.length) → Q (.ref p) H') :
    tLc (iTup X.K (tE X a)) (gName j) (bTs X scope ifs) (bE X scope elt) [j] t H Q := by
  refine ha F G t H A _ fun v G1 H1 e1 k1 => ?_
  cases k1 with
  | @tup l vs _ h1 h2 =>
    have A1 := A.ext e1
    have hS := A1.gh _ _ h1
    refine ⟨l, rfl, ⟨vs, SqT.of hS⟩, fun L hL => lc_tup (xs := vs) (Cw X.K G1 H1 f g L) (cw_start A1.gh hL) (fun k H' _ c => by obtain ⟨_, _, e, _⟩ := c; exact SqT.of (e.h _ _ hS)) (fun k w H' hk c => ?_) fun H' c => cw_end e1 hL (by rw [h2.len] at c; exact c) q⟩
    obtain ⟨d, hd, kd⟩ := h2.get' hk
    have hlt : k < ds.length := (List.getElem?_eq_some_iff.mp hd).1
    exact cw_turn (d := d) A1 hr hL c (by omega) (fun G' e => Dt.mono e.g _ _ kd) (ht k d hd) (he k d hd)
theorem po_lcR {scope : Scope} {cpos : Pos} (B : Bi X.mg) (j : Nat) {s : Slot} (nd : X.N.Nodup) (f : Nat → Bool) (g : Nat → D) (ha : PB X r a (.int n)) (hn : n ≤ 16777216) (hn2 : -(2 ^ 62) ≤ n) (ht : ∀ (k : Nat), (k : Int) < n → ∀ s H C cl fp, FQ (Blk X scope s H C cl fp) (r.set j (.d (.int k))) ifs (f k)) (he : ∀ (k : Nat), (k : Int) < n → f k = true → ∀ s H C cl fp, PP (Blk X scope s H C cl fp) (r.set j (.d (.int k))) elt (g k))
    (ok : BlkOk X.N X.env.scope scope [(x, j)] := by exact blkOk_by (by kernel_rfl)) (hb : BlkN X scope x px j := by first | exact fun _ _ _ _ _ => pg_name (by assumption) rfl (Or.inl rfl) | exact fun _ _ _ _ _ => pg_name (by assumption) rfl (Or.inr rfl)) (hr : r[j]? = some s := by rfl) (hc : X.calm = true := by rfl) (hg : Gl X "range" := by rfl) (hs : starEach [a] X.env = [(false, eval a X.env)] := by rfl) (hfs : ∀ x, foldedSetIterable (.Call (.Name "range" p) [a] [] cpos) X.env x = pure x := by intro _; rfl) :
    PO X r (.ListComp elt [⟨.Name x px, .Call (.Name "range" p) [a] [] cpos, ifs, 0⟩] scope pos) (madeD f g n.toNat) := fun F G t H A Q q =>
  oE (pe_lc (own := [(x, j)]) (g := gName j) (tt := bTs X scope ifs) (te := bE X scope elt) hc nd (pi_range1 hg B.range cA hs) ok (bg_of hb) bts_of be_of hfs) (lcR A hr f g ha hn hn2 ht he hs q)
theorem hs_lcR {scope : Scope} {cpos spos py : Pos} {y : Str} (i : Nat) {s1 : Slot} (sl : Slot) (B : Bi X.mg) (j : Nat) {s : Slot} (nd : X.N.Nodup) (f : Nat → Bool) (g : Nat → D) (ha : PB X r a (.int n)) (hn : n ≤ 16777216) (hn2 : -(2 ^ 62) ≤ n) (ht : ∀ (k : Nat), (k : Int) < n → ∀ s H C cl fp, FQ (Blk X scope s H C cl fp) (r.set j (.d (.int k))) ifs (f k)) (he : ∀ (k : Nat), (k : Int) < n → f k = true → ∀ s H C cl fp, PP (Blk X scope s H C cl fp) (r.set j (.d (.int k))) elt (g k))
    (ok : BlkOk X.N X.env.scope scope [(x, j)] := by exact blkOk_by (by kernel_rfl)) (hb : BlkN X scope x px j := by first | exact fun _ _ _ _ _ => pg_name (by assumption) rfl (Or.inl rfl) | exact fun _ _ _ _ _ => pg_name (by assumption) rfl (Or.inr rfl)) (hr : r[j]? = some s := by rfl) (hc : X.calm = true := by rfl) (hg : Gl X "range" := by rfl) (hs : starEach [a] X.env = [(false, eval a X.env)] := by rfl) (hfs : ∀ x, foldedSetIterable (.Call (.Name "range" p) [a] [] cpos) X.env x = pure x := by intro _; rfl) (hsl : sl = .o (madeD f g n.toNat) ∨ sl = .d (.lst (madeD f g n.toNat))) (k : HS X (r.set i sl) rest N R)
    (hr1 : r[i]? = some s1 := by rfl) (hy : X.N[i]? = some y := by rfl) (hyl : X.env.scope.names.lookup y = some .local := by rfl) (hsw : swapsWith (.ListComp elt [⟨.Name x px, .Call (.Name "range" p) [a] [] cpos, ifs, 0⟩] scope pos) (some (.Name y py)) spos.line X.env = pure true := by exact sw_true rfl rfl rfl (by kernel_rfl)) :
    HS X r (.Assign [.Name y py] (.ListComp elt [⟨.Name x px, .Call (.Name "range" p) [a] [] cpos, ifs, 0⟩] scope pos) spos :: rest) N R :=
  hs_cons (M := fun r' => r' = r.set i sl) (fun F G t H nl A D nx q => oS (ps_setLc (i := i) (own := [(x, j)]) (g := gName j) (tt := bTs X scope ifs) (te := bE X scope elt) hc nd hy hyl hsw (pi_range1 hg B.range cA hs) ok (bg_of hb) bts_of be_of hfs)
    (lcR A hr f g ha hn hn2 ht he hs fun p vs G' H' e np g' h' da => by
      rcases hsl with rfl | rfl
      · exact nx _ G' _ H' rfl (A.asgO hr1 e np g' h' da)
      · exact nx _ (upd G' p (.lst vs)) _ H' rfl ((A.ext (e.tell np g' h')).asg hr1 (.lst upd_same (DtAll.mono (Same.new g') _ _ da))))) fun _ e => e ▸ k
theorem po_lcL {scope : Scope} {cpos : Pos} (j : Nat) {s : Slot} (nd : X.N.Nodup) (f : Nat → Bool) (g : Nat → D) (ha : PP X r a (.lst ds)) (hn : ds.length ≤ sizeLine) (ht : ∀ (k : Nat) (d : D), ds[k]? = some d → ∀ s H C cl fp, FQ (Blk X scope s H C cl fp) (r.set j (.d (d))) ifs (f k)) (he : ∀ (k : Nat) (d : D), ds[k]? = some d → f k = true → ∀ s H C cl fp, PP (Blk X scope s H C cl fp) (r.set j (.d (d))) elt (g k))
    (ok : BlkOk X.N X.env.scope scope [(x, j)] := by exact blkOk_by (by kernel_rfl)) (hb : BlkN X scope x px j := by first | exact fun _ _ _ _ _ => pg_name (by assumption) rfl (Or.inl rfl) | exact fun _ _ _ _ _ => pg_name (by assumption) rfl (Or.inr rfl)) (hr : r[j]? = some s := by rfl) (hc : X.calm = true := by rfl) (hfs : ∀ x, foldedSetIterable (a) X.env x = pure x := by intro _; rfl) :
    PO X r (.ListComp elt [⟨.Name x px, a, ifs, 0⟩] scope pos) (madeD f g ds.length) := fun F G t H A Q q =>
  oE (pe_lc (own := [(x, j)]) (g := gName j) (tt := bTs X scope ifs) (te := bE X scope elt) hc nd (pi_list cE) ok (bg_of hb) bts_of be_of hfs) (lcL A hr f g ha hn ht he q)
theorem hs_lcL {scope : Scope} {cpos spos py : Pos} {y : Str} (i : Nat) {s1 : Slot} (sl : Slot) (j : Nat) {s : Slot} (nd : X.N.Nodup) (f : Nat → Bool) (g : Nat → D) (ha : PP X r a (.lst ds)) (hn : ds.length ≤ sizeLine) (ht : ∀ (k : Nat) (d : D), ds[k]? = some d → ∀ s H C cl fp, FQ (Blk X scope s H C cl fp) (r.set j (.d (d))) ifs (f k)) (he : ∀ (k : Nat) (d : D), ds[k]? = some d → f k = true → ∀ s H C cl fp, PP (Blk X scope s H C cl fp) (r.set j (.d (d))) elt (g k))
    (ok : BlkOk X.N X.env.scope scope [(x, j)] := by exact blkOk_by (by kernel_rfl)) (hb : BlkN X scope x px j := by first | exact fun _ _ _ _ _ => pg_name (by assumption) rfl (Or.inl rfl) | exact fun _ _ _ _ _ => pg_name (by assumption) rfl (Or.inr rfl)) (hr : r[j]? = some s := by rfl) (hc : X.calm = true := by rfl) (hfs : ∀ x, foldedSetIterable (a) X.env x = pure x := by intro _; rfl) (hsl : sl = .o (madeD f g ds.length) ∨ sl = .d (.lst (madeD f g ds.length))) (k : HS X (r.set i sl) rest N R)
    (hr1 : r[i]? = some s1 := by rfl) (hy : X.N[i]? = some y := by rfl) (hyl : X.env.scope.names.lookup y = some .local := by rfl) (hsw : swapsWith (.ListComp elt [⟨.Name x px, a, ifs, 0⟩] scope pos) (some (.Name y py)) spos.line X.env = pure true := by exact sw_true rfl rfl rfl (by kernel_rfl)) :
    HS X r (.Assign [.Name y py] (.ListComp elt [⟨.Name x px, a, ifs, 0⟩] scope pos) spos :: rest) N R :=
  hs_cons (M := fun r' => r' = r.set i sl) (fun F G t H nl A D nx q => oS (ps_setLc (i := i) (own := [(x, j)]) (g := gName j) (tt := bTs X scope ifs) (te := bE X scope elt) hc nd hy hyl hsw (pi_list cE) ok (bg_of hb) bts_of be_of hfs)
    (lcL A hr f g ha hn ht he fun p vs G' H' e np g' h' da => by
      rcases hsl with rfl | rfl
      · exact nx _ G' _ H' rfl (A.asgO hr1 e np g' h' da)
      · exact nx _ (upd G' p (.lst vs)) _ H' rfl ((A.ext (e.tell np g' h')).asg hr1 (.lst upd_same (DtAll.mono (Same.new g') _ _ da))))) fun _ e => e ▸ k
theorem po_lcB {scope : Scope} {cpos : Pos} (j : Nat) {s : Slot} (nd : X.N.Nodup) (f : Nat → Bool) (g : Nat → D) (ha : PB X r a (.lst ds)) (hsc : ∀ d, d ∈ ds → Sc d) (hn : ds.length ≤ sizeLine) (ht : ∀ (k : Nat) (d : D), ds[k]? = some d → ∀ s H C cl fp, FQ (Blk X scope s H C cl fp) (r.set j (.d (d))) ifs (f k)) (he : ∀ (k : Nat) (d : D), ds[k]? = some d → f k = true → ∀ s H C cl fp, PP (Blk X scope s H C cl fp) (r.set j (.d (d))) elt (g k))
    (ok : BlkOk X.N X.env.scope scope [(x, j)] := by exact blkOk_by (by kernel_rfl)) (hb : BlkN X scope x px j := by first | exact fun _ _ _ _ _ => pg_name (by assumption) rfl (Or.inl rfl) | exact fun _ _ _ _ _ => pg_name (by assumption) rfl (Or.inr rfl)) (hr : r[j]? = some s := by rfl) (hc : X.calm = true := by rfl) (hfs : ∀ x, foldedSetIterable (a) X.env x = pure x := by intro _; rfl) :
    PO X r (.ListComp elt [⟨.Name x px, a, ifs, 0⟩] scope pos) (madeD f g ds.length) := fun F G t H A Q q =>
  oE (pe_lc (own := [(x, j)]) (g := gName j) (tt := bTs X scope ifs) (te := bE X scope elt) hc nd (pi_list cE) ok (bg_of hb) bts_of be_of hfs) (lcB A hr f g ha hsc hn ht he q)
theorem hs_lcB {scope : Scope} {cpos spos py : Pos} {y : Str} (i : Nat) {s1 : Slot} (sl : Slot) (j : Nat) {s : Slot} (nd : X.N.Nodup) (f : Nat → Bool) (g : Nat → D) (ha : PB X r a (.lst ds)) (hsc : ∀ d, d ∈ ds → Sc d) (hn : ds.length ≤ sizeLine) (ht : ∀ (k : Nat) (d : D), ds[k]? = some d → ∀ s H C cl fp, FQ (Blk X scope s H C cl fp) (r.set j (.d (d))) ifs (f k)) (he : ∀ (k : Nat) (d : D), ds[k]? = some d → f k = true → ∀ s H C cl fp, PP (Blk X scope s H C cl fp) (r.set j (.d (d))) elt (g k))
    (ok : BlkOk X.N X.env.scope scope [(x, j)] := by exact blkOk_by (by kernel_rfl)) (hb : BlkN X scope x px j := by first | exact fun _ _ _ _ _ => pg_name (by assumption) rfl (Or.inl rfl) | exact fun _ _ _ _ _ => pg_name (by assumption) rfl (Or.inr rfl)) (hr : r[j]? = some s := by rfl) (hc : X.calm = true := by rfl) (hfs : ∀ x, foldedSetIterable (a) X.env x = pure x := by intro _; rfl) (hsl : sl = .o (madeD f g ds.length) ∨ sl = .d (.lst (madeD f g ds.length))) (k : HS X (r.set i sl) rest N R)
    (hr1 : r[i]? = some s1 := by rfl) (hy : X.N[i]? = some y := by rfl) (hyl : X.env.scope.names.lookup y = some .local := by rfl) (hsw : swapsWith (.ListComp elt [⟨.Name x px, a, ifs, 0⟩] scope pos) (some (.Name y py)) spos.line X.env = pure true := by exact sw_true rfl rfl rfl (by kernel_rfl)) :
    HS X r (.Assign [.Name y py] (.ListComp elt [⟨.Name x px, a, ifs, 0⟩] scope pos) spos :: rest) N R :=
  hs_cons (M := fun r' => r' = r.set i sl) (fun F G t H nl A D nx q => oS (ps_setLc (i := i) (own := [(x, j)]) (g := gName j) (tt := bTs X scope ifs) (te := bE X scope elt) hc nd hy hyl hsw (pi_list cE) ok (bg_of hb) bts_of be_of hfs)
    (lcB A hr f g ha hsc hn ht he fun p vs G' H' e np g' h' da => by
      rcases hsl with rfl | rfl
      · exact nx _ G' _ H' rfl (A.asgO hr1 e np g' h' da)
      · exact nx _ (upd G' p (.lst vs)) _ H' rfl ((A.ext (e.tell np g' h')).asg hr1 (.lst upd_same (DtAll.mono (Same.new g') _ _ da))))) fun _ e => e ▸ k
theorem po_lcT {scope : Scope} {cpos : Pos} (j : Nat) {s : Slot} (nd : X.N.Nodup) (f : Nat → Bool) (g : Nat → D) (ha : PP X r a (.tup ds)) (hn : ds.length ≤ sizeLine) (ht : ∀ (k : Nat) (d : D), ds[k]? = some d → ∀ s H C cl fp, FQ (Blk X scope s H C cl fp) (r.set j (.d (d))) ifs (f k)) (he : ∀ (k : Nat) (d : D), ds[k]? = some d → f k = true → ∀ s H C cl fp, PP (Blk X scope s H C cl fp) (r.set j (.d (d))) elt (g k))
    (ok : BlkOk X.N X.env.scope scope [(x, j)] := by exact blkOk_by (by kernel_rfl)) (hb : BlkN X scope x px j := by first | exact fun _ _ _ _ _ => pg_name (by assumption) rfl (Or.inl rfl) | exact fun _ _ _ _ _ => pg_name (by assumption) rfl (Or.inr rfl)) (hr : r[j]? = some s := by rfl) (hc : X.calm = true := by rfl) (hfs : ∀ x, foldedSetIterable (a) X.env x = pure x := by intro _; rfl) :
    PO X r (.ListComp elt [⟨.Name x px, a, ifs, 0⟩] scope pos) (madeD f g ds.length) := fun F G t H A Q q =>
  oE (pe_lc (own := [(x, j)]) (g := gName j) (tt := bTs X scope ifs) (te := bE X scope elt) hc nd (pi_tup cE) ok (bg_of hb) bts_of be_of hfs) (lcT A hr f g ha hn ht he q)
theorem hs_lcT {scope : Scope} {cpos spos py : Pos} {y : Str} (i : Nat) {s1 : Slot} (sl : Slot) (j : Nat) {s : Slot} (nd : X.N.Nodup) (f : Nat → Bool) (g : Nat → D) (ha : PP X r a (.tup ds)) (hn : ds.length ≤ sizeLine) (ht : ∀ (k : Nat) (d : D), ds[k]? = some d → ∀ s H C cl fp, FQ (Blk X scope s H C cl fp) (r.set j (.d (d))) ifs (f k)) (he : ∀ (k : Nat) (d : D), ds[k]? = some d → f k = true → ∀ s H C cl fp, PP (Blk X scope s H C cl fp) (r.set j (.d (d))) elt (g k))
    (ok : BlkOk X.N X.env.scope scope [(x, j)] := by exact blkOk_by (by kernel_rfl)) (hb : BlkN X scope x px j := by first | exact fun _ _ _ _ _ => pg_name (by assumption) rfl (Or.inl rfl) | exact fun _ _ _ _ _ => pg_name (by assumption) rfl (Or.inr rfl)) (hr : r[j]? = some s := by rfl) (hc : X.calm = true := by rfl) (hfs : ∀ x, foldedSetIterable (a) X.env x = pure x := by intro _; rfl) (hsl : sl = .o (madeD f g ds.length) ∨ sl = .d (.lst (madeD f g ds.length))) (k : HS X (r.set i sl) rest N R)
    (hr1 : r[i]? = some s1 := by rfl) (hy : X.N[i]? = some y := by rfl) (hyl : X.env.scope.names.lookup y = some .local := by rfl) (hsw : swapsWith (.ListComp elt [⟨.Name x px, a, ifs, 0⟩] scope pos) (some (.Name y py)) spos.line X.env = pure true := by exact sw_true rfl rfl rfl (by kernel_rfl)) :
    HS X r (.Assign [.Name y py] (.ListComp elt [⟨.Name x px, a, ifs, 0⟩] scope pos) spos :: rest) N R :=
  hs_cons (M := fun r' => r' = r.set i sl) (fun F G t H nl A D nx q => oS (ps_setLc (i := i) (own := [(x, j)]) (g := gName j) (tt := bTs X scope ifs) (te := bE X scope elt) hc nd hy hyl hsw (pi_tup cE) ok (bg_of hb) bts_of be_of hfs)
    (lcT A hr f g ha hn ht he fun p vs G' H' e np g' h' da => by
      rcases hsl with rfl | rfl
      · exact nx _ G' _ H' rfl (A.asgO hr1 e np g' h' da)
      · exact nx _ (upd G' p (.lst vs)) _ H' rfl ((A.ext (e.tell np g' h')).asg hr1 (.lst upd_same (DtAll.mono (Same.new g') _ _ da))))) fun _ e => e ▸ k
end
end DL

/-! Part 7: defs and their calls. -/
namespace DL
open PySem PySem.Spec PyProof.Rows L2
/-- a def's contract: from the arguments' data to what is handed back -/
abbrev Ct := List D → Slot → Prop
def Ret (K : PySem.W.Frag) (F : Fr) (s : Slot) (v : V) (H' : Hp) : Prop := ∃ r' t' G', At K F G' (s :: r') (some v :: t') H'
def spC (K : PySem.W.Frag) (C : Ct) : Sp := fun vs H Q _ => ∃ G ds s, Same G H ∧ DtAll K G vs ds ∧ C ds s ∧ ∀ v H', Ret K ⟨[], G, H⟩ s v H' → Q v H'
theorem Ret.ext {K : PySem.W.Frag} {G H : Hp} {d : D} {v : V} {H' : Hp} (h : Ret K ⟨[], G, H⟩ (.d d) v H') : ∃ G', Ext G H G' H' ∧ Dt K G' v d := by
  obtain ⟨r', t', G', o, fp, s, _⟩ := h
  cases s with
  | cons h1 _ =>
    obtain ⟨w, e, _, k⟩ := h1
    cases e
    exact ⟨G', ⟨o.g, o.gh, fun a u q => o.h a u q (by simp), o.nw⟩, k⟩
theorem Ret.extO {K : PySem.W.Frag} {G H : Hp} {xs : List D} {v : V} {H' : Hp} (h : Ret K ⟨[], G, H⟩ (.o xs) v H') : ∃ p vs G', v = .ref p ∧ Ext G H G' H' ∧ H p = none ∧ G' p = none ∧ H' p = some (.lst vs) ∧ DtAll K G' vs xs := by
  obtain ⟨r', t', G', o, fp, s, _, fr⟩ := h
  cases s with
  | cons h1 _ =>
    obtain ⟨w, e, p, vs, rfl, rfl, k1, k2⟩ := h1
    cases e
    have z := fr p (by simp)
    exact ⟨p, vs, G', rfl, ⟨o.g, o.gh, fun a u q => o.h a u q (by simp), o.nw⟩, z.2.elim id (fun w => by cases w), z.1, k1, k2⟩
theorem slots_start {K : PySem.W.Frag} {G H : Hp} (m : Nat) : ∀ {vs : List V} {ds : List D}, DtAll K G vs ds → Slots K G H (ds.map Slot.d ++ List.replicate m Slot.un) (vs.map some ++ List.replicate m none) []
  | _, _, .nil => by
    induction m with
    | zero => exact .nil
    | succ m ih => exact Slots.cons (fp := []) (s := .un) (show SlotOk K G H .un none [] from rfl) ih
  | _, _, .cons h t => Slots.cons (fp := []) ⟨_, rfl, rfl, h⟩ (slots_start m t)
/-- the state at a def's entry -/
abbrev entry (N : List Str) (ds : List D) : List Slot := ds.map Slot.d ++ List.replicate (N.length - ds.length) Slot.un
section
variable {P : Program} {w : World} {K : PySem.W.Frag} {mg : Str → Option Value} {base : Heap}
/-- the context of a def's body that lets nothing out -/
abbrev cx0 (P : Program) (w : World) (K : PySem.W.Frag) (mg : Str → Option Value) (base : Heap) (N : List Str) (qual : Str) (sc : Scope) (f : Addr) (cdv : Value) (A : Around) (outer : List Env) (s : Shared) (H : Hp) (E : XK) : Cx := (cxOf CX0 P w K mg base N qual sc f cdv A outer s H E).nox
theorem fn_body {qual : Str} {sc : Scope} {f : Addr} {N : List Str} {body : List Stmt} {k : Nat} {C : Ct}
    (hb : ∀ ds s, C ds s → ∀ cdv A outer s0 H E, Room k (A.deeper (envOfC qual sc s0.heap.objs.size f cdv)) →
      HS (cx0 P w K mg base N qual sc f cdv A outer s0 H E) (entry N ds) body (fun _ => s = .d .non) (fun s' _ => s' = s))
    (cdv : Value) (A : Around) (outer : List Env) (s : Shared) (H : Hp) (vs : List V) (Q : VK) (E : XK) (hr : Room k (A.deeper (envOfC qual sc s.heap.objs.size f cdv))) (h : spC K C vs H Q E) :
    ∃ t, PSs (cx0 P w K mg base N qual sc f cdv A outer s H E) body t ∧ t { nx := fun _ H' => Q .non H', rt := Q } (L2.start N vs) H := by
  obtain ⟨G, ds, sl, gh, da, c, q⟩ := h
  refine ⟨_, cSs, hb ds sl c cdv A outer s H E hr ⟨[], G, H⟩ G (L2.start N vs) H rfl ?_ _ (fun r' G' t' H' e A' => ?_) fun s' r' v t' G' H' e A' => ?_⟩
  · refine ⟨⟨Same.refl G, gh, fun _ _ q _ => q, fun _ _ q => q, fun _ z => by cases z⟩, [], ?_, by simp, fun a ha => by cases ha⟩
    unfold L2.start entry
    rw [da.len]
    exact slots_start _ da
  · subst e
    exact q .non H' ⟨r', t', G', A'.front .non⟩
  · subst e
    exact q v H' ⟨r', t', G', A'⟩
theorem fn_ok {x qual : Str} {st : Stmt} {f : Addr} {fd : FuncData} {N ps : List Str} {k : Nat} {C : Ct} (Fn : Fun K x qual st f fd) (S : FnScope N ps (defScope st)) (hl : ∀ ds s, C ds s → ds.length = ps.length)
    (hb : ∀ ds s, C ds s → ∀ cdv A outer s0 H E, Room k (A.deeper (envOfC qual (defScope st) s0.heap.objs.size f cdv)) →
      HS (cx0 P w K mg base N qual (defScope st) f cdv A outer s0 H E) (entry N ds) (defBody st) (fun _ => s = .d .non) (fun s' _ => s' = s)) : FnOk P w K mg base CX0 (k + 1) f fd ps (spC K C) :=
  Fn.ok S (fun vs H Q E h => by
    obtain ⟨G, ds, sl, gh, da, c, q⟩ := h
    rw [da.len]
    exact hl ds sl c) (fn_body hb)
/-- a def of the text, bound to its name -/
structure Df (K : PySem.W.Frag) (mg : Str → Option Value) (x : Str) (st : Stmt) (ps : List Str) : Prop where
  ex : ∃ f fd, Fun K x x st f fd ∧ mg x = some (.ref f) ∧ Binds K fd ps []
/-- a name that keeps a contract -/
structure Has (P : Program) (w : World) (K : PySem.W.Frag) (mg : Str → Option Value) (base : Heap) (k : Nat) (x : Str) (dD : List D) (C : Ct) : Prop where
  ex : ∃ f fd ps dvals dvs, FnOk P w K mg base CX0 k f fd ps (spC K C) ∧ mg x = some (.ref f) ∧ PySem.W.keepIn K (.ref f) = true ∧ Binds K fd ps dvals ∧ Vals dvs dvals ∧ ∀ G, DtAll K G dvs dD
theorem Has.mono {j k : Nat} {x : Str} {dD : List D} {C : Ct} (h : Has P w K mg base j x dD C) (l : j ≤ k) : Has P w K mg base k x dD C := by
  obtain ⟨f, fd, ps, dvals, dvs, F, r⟩ := h
  exact ⟨f, fd, ps, dvals, dvs, F.mono l, r⟩
theorem has_def {x : Str} {st : Stmt} {ps N : List Str} {k : Nat} {C : Ct} (T : Df K mg x st ps) (S : FnScope N ps (defScope st)) (hl : ∀ ds s, C ds s → ds.length = ps.length)
    (hb : ∀ ds s, C ds s → ∀ f cdv A outer s0 H E, Room k (A.deeper (envOfC x (defScope st) s0.heap.objs.size f cdv)) →
      HS (cx0 P w K mg base N x (defScope st) f cdv A outer s0 H E) (entry N ds) (defBody st) (fun _ => s = .d .non) (fun s' _ => s' = s)) : Has P w K mg base (k + 1) x [] C := by
  obtain ⟨f, fd, F, hm, b⟩ := T
  exact ⟨f, fd, ps, [], [], fn_ok F S hl fun ds s c => hb ds s c f, hm, F.kp, b, .nil, fun _ => .nil⟩
/-- a def with defaults -/
structure DfD (K : PySem.W.Frag) (mg : Str → Option Value) (x : Str) (st : Stmt) (ps : List Str) (dvs : List V) (dD : List D) : Prop where
  ex : ∃ f fd dvals, FunD K x x (defArgs st) (defBody st) (defScope st) dvs [] f fd ∧ mg x = some (.ref f) ∧ Binds K fd ps dvals ∧ Vals dvs dvals ∧ (∀ G, DtAll K G dvs dD) ∧ Binds K fd ps []
theorem has_defD {x : Str} {st : Stmt} {ps N : List Str} {k : Nat} {C : Ct} {dvs : List V} {dD : List D} (T : DfD K mg x st ps dvs dD) (S : FnScope N ps (defScope st)) (hl : ∀ ds s, C ds s → ds.length = ps.length)
    (hb : ∀ ds s, C ds s → ∀ f cdv A outer s0 H E, Room k (A.deeper (envOfC x (defScope st) s0.heap.objs.size f cdv)) →
      HS (cx0 P w K mg base N x (defScope st) f cdv A outer s0 H E) (entry N ds) (defBody st) (fun _ => s = .d .non) (fun s' _ => s' = s)) : Has P w K mg base (k + 1) x dD C ∧ Has P w K mg base (k + 1) x [] C := by
  obtain ⟨f, fd, dvals, F, hm, b, v, da, b0⟩ := T
  have O : FnOk P w K mg base CX0 (k + 1) f fd ps (spC K C) := F.ok S (fun vs H Q E h => by
    obtain ⟨G, ds, sl, gh, da, c, q⟩ := h
    rw [da.len]
    exact hl ds sl c) fun cdv A outer s H vs Q E hr hsp => by
      obtain ⟨t, h, q⟩ := fn_body (fun ds s c => hb ds s c f) cdv A outer s H vs Q E hr hsp
      exact ⟨t, h.nox, q⟩
  exact ⟨⟨f, fd, ps, dvals, dvs, O, hm, F.kp, b, v, da⟩, ⟨f, fd, ps, [], [], O, hm, F.kp, b0, .nil, fun _ => .nil⟩⟩
end
section
variable {X : Cx} {r r1 r2 : List Slot} {e a b c : Expr} {es : List Expr} {pos p px : Pos} {d d1 d2 : D} {ds xs ys dD : List D} {x : Str} {k : Nat} {C : Ct}
/-- the call handed on -/
theorem call_of (h : Has X.prog X.w X.K X.mg X.base k x dD C) (hr : Room k X.A) (hg : Gl X x) (hdb : (x == ("__debug__" : Str)) = false) (he : starEach (e :: es) X.env = (false, eval e X.env) :: starEach es X.env) (hpl : (backTo pos (starEach es X.env)).any (·.1) = false) :
    ∃ dvs, (∀ G, DtAll X.K G dvs dD) ∧ PE X (.Call (.Name x p) (e :: es) [] pos) (tCall (spC X.K C) dvs E0 (tAr X (e :: es))) := by
  obtain ⟨f, fd, ps, dvals, dvs, F, hm, kp, b, v, da⟩ := h
  exact ⟨dvs, da, pe_call F hr hg hm kp b v pass0 cA hdb he hpl⟩
theorem call_of0 (h : Has X.prog X.w X.K X.mg X.base k x dD C) (hr : Room k X.A) (hg : Gl X x) (hdb : (x == ("__debug__" : Str)) = false) :
    ∃ dvs, (∀ G, DtAll X.K G dvs dD) ∧ PE X (.Call (.Name x p) [] [] pos) (tCall (spC X.K C) dvs E0 tNil) := by
  obtain ⟨f, fd, ps, dvals, dvs, F, hm, kp, b, v, da⟩ := h
  exact ⟨dvs, da, pe_call0 F hr hg hm kp b v pass0 hdb⟩
/-- f(e, ..) hands back data -/
theorem pp_call (h : Has X.prog X.w X.K X.mg X.base k x dD C) (hr : Room k X.A) (ha : AQ X r (e :: es) ds) (hc : C (ds ++ dD) (.d d)) (hg : Gl X x := by rfl) (hdb : (x == ("__debug__" : Str)) = false := by decide)
    (he : starEach (e :: es) X.env = (false, eval e X.env) :: starEach es X.env := by rfl) (hpl : (backTo pos (starEach es X.env)).any (·.1) = false := by rfl) : PP X r (.Call (.Name x p) (e :: es) [] pos) d := fun F G t H A Q q => by
  obtain ⟨dvs, da, pe⟩ := call_of h hr hg hdb he hpl
  refine oE pe (ha F G t H A _ fun vs G1 H1 e1 k1 => ⟨G1, ds ++ dD, .d d, e1.gh, k1.app (da G1), hc, fun v H' ret => ?_⟩)
  obtain ⟨G', e2, k2⟩ := ret.ext
  exact q v G' H' (e1.trans e2) k2
/-- a new list -/
theorem po_call (h : Has X.prog X.w X.K X.mg X.base k x dD C) (hr : Room k X.A) (ha : AQ X r (e :: es) ds) (hc : C (ds ++ dD) (.o xs)) (hg : Gl X x := by rfl) (hdb : (x == ("__debug__" : Str)) = false := by decide)
    (he : starEach (e :: es) X.env = (false, eval e X.env) :: starEach es X.env := by rfl) (hpl : (backTo pos (starEach es X.env)).any (·.1) = false := by rfl) : PO X r (.Call (.Name x p) (e :: es) [] pos) xs := fun F G t H A Q q => by
  obtain ⟨dvs, da, pe⟩ := call_of h hr hg hdb he hpl
  refine oE pe (ha F G t H A _ fun vs G1 H1 e1 k1 => ⟨G1, ds ++ dD, .o xs, e1.gh, k1.app (da G1), hc, fun v H' ret => ?_⟩)
  obtain ⟨p, vs, G', rfl, e2, n, g, h', k2⟩ := ret.extO
  exact q p vs G' H' (e1.trans e2) (e1.h.free n) g h' k2
/-- arguments looked at -/
theorem pb_call (h : Has X.prog X.w X.K X.mg X.base k x dD C) (hr : Room k X.A) (ha : AB X r (e :: es) ds) (hc : C (ds ++ dD) (.d d)) (hg : Gl X x := by rfl) (hdb : (x == ("__debug__" : Str)) = false := by decide)
    (he : starEach (e :: es) X.env = (false, eval e X.env) :: starEach es X.env := by rfl) (hpl : (backTo pos (starEach es X.env)).any (·.1) = false := by rfl) : PB X r (.Call (.Name x p) (e :: es) [] pos) d := fun F G t H A Q q => by
  obtain ⟨dvs, da, pe⟩ := call_of h hr hg hdb he hpl
  refine oE pe (ha F G t H A _ fun vs G1 H1 e1 k1 => ⟨H1, ds ++ dD, .d d, Same.refl H1, k1.app (da H1), hc, fun v H' ret => ?_⟩)
  obtain ⟨G', e2, k2⟩ := ret.ext
  exact q v G1 H' ⟨e1.g, e1.gh.trans e2.h, e1.h.trans e2.h, e1.nw⟩ (Dt.mono e2.gh _ _ k2)
theorem po_callB (h : Has X.prog X.w X.K X.mg X.base k x dD C) (hr : Room k X.A) (ha : AB X r (e :: es) ds) (hc : C (ds ++ dD) (.o xs)) (sc : ∀ d, d ∈ xs → Sc d) (hg : Gl X x := by rfl) (hdb : (x == ("__debug__" : Str)) = false := by decide)
    (he : starEach (e :: es) X.env = (false, eval e X.env) :: starEach es X.env := by rfl) (hpl : (backTo pos (starEach es X.env)).any (·.1) = false := by rfl) : PO X r (.Call (.Name x p) (e :: es) [] pos) xs := fun F G t H A Q q => by
  obtain ⟨dvs, da, pe⟩ := call_of h hr hg hdb he hpl
  refine oE pe (ha F G t H A _ fun vs G1 H1 e1 k1 => ⟨H1, ds ++ dD, .o xs, Same.refl H1, k1.app (da H1), hc, fun v H' ret => ?_⟩)
  obtain ⟨p, vs, G', rfl, e2, n, g, h', k2⟩ := ret.extO
  exact q p vs G1 H' ⟨e1.g, e1.gh.trans e2.h, e1.h.trans e2.h, e1.nw⟩ (e1.h.free n) (e1.gh.free n) h' (k2.scAny sc)
/-- f() -/
theorem pp_call0 (h : Has X.prog X.w X.K X.mg X.base k x dD C) (hr : Room k X.A) (hc : C dD (.d d)) (hg : Gl X x := by rfl) (hdb : (x == ("__debug__" : Str)) = false := by decide) : PP X r (.Call (.Name x p) [] [] pos) d := fun F G t H A Q q => by
  obtain ⟨dvs, da, pe⟩ := call_of0 h hr hg hdb
  refine oE pe ⟨G, dD, .d d, A.gh, da G, hc, fun v H' ret => ?_⟩
  obtain ⟨G', e2, k2⟩ := ret.ext
  exact q v G' H' e2 k2
end
end DL

/-! Part 8: ranges and lists of ints, in short. -/
namespace DL
open PySem PySem.Spec PyProof.Rows L2
theorem madeD_all (g : Nat → D) (n : Nat) : madeD (fun _ => true) g n = (List.range n).map g := by
  unfold madeD
  rw [List.filter_eq_self.mpr (fun _ _ => rfl)]
theorem madeD_list (f : D → Bool) (g : D → D) (ds : List D) : ∀ n, n ≤ ds.length → madeD (fun k => f (ds.getD k .non)) (fun k => g (ds.getD k .non)) n = ((ds.take n).filter f).map g
  | 0, _ => rfl
  | n + 1, h => by
    have ih := madeD_list f g ds n (by omega)
    have hn : n < ds.length := by omega
    have e : ds.getD n .non = ds[n] := by simp [List.getD, hn]
    have tk : ds.take (n + 1) = ds.take n ++ [ds[n]] := by simp
    rw [tk, List.filter_append, List.map_append, ← ih]
    cases hf : f ds[n] with
    | true =>
      rw [madeD_yes (show f (ds.getD n .non) = true by rw [e]; exact hf), List.filter_cons, if_pos hf, e]
      rfl
    | false =>
      rw [madeD_no (show f (ds.getD n .non) = false by rw [e]; exact hf), List.filter_cons, if_neg (by rw [hf]; decide)]
      simp
theorem madeD_full (f : D → Bool) (g : D → D) (ds : List D) : madeD (fun k => f (ds.getD k .non)) (fun k => g (ds.getD k .non)) ds.length = (ds.filter f).map g := by
  rw [madeD_list f g ds ds.length (Nat.le_refl _), List.take_length]
theorem getD_of {ds : List D} {k : Nat} {d : D} (h : ds[k]? = some d) : ds.getD k .non = d := by simp [List.getD, h]
theorem ints_get {ns : List Int} {k : Nat} {d : D} (h : (ns.map D.int)[k]? = some d) : ∃ z, ns[k]? = some z ∧ d = .int z := by
  rw [List.getElem?_map] at h
  cases e : ns[k]? with
  | none => rw [e] at h; cases h
  | some z => rw [e] at h; exact ⟨z, rfl, (Option.some.inj h).symm⟩
/-- from a datum that is an int -/
def ofI {α : Type} (f : Int → α) (z : α) : D → α
  | .int i => f i
  | _ => z
theorem filter_ints (f : Int → Bool) : ∀ ns : List Int, (ns.map D.int).filter (ofI f false) = (ns.filter f).map D.int
  | [] => rfl
  | n :: ns => by
    have ih := filter_ints f ns
    show (D.int n :: ns.map D.int).filter (ofI f false) = _
    rw [List.filter_cons, List.filter_cons, ih]
    show (if f n = true then _ else _) = _
    cases f n <;> rfl
theorem made_ints (f : Int → Bool) (g : Int → D) (ns : List Int) : ((ns.map D.int).filter (ofI f false)).map (ofI g .non) = (ns.filter f).map g := by
  rw [filter_ints, List.map_map]
  rfl
theorem filter_yes {α : Type} (l : List α) : l.filter (fun _ => true) = l := List.filter_eq_self.mpr fun _ _ => rfl
theorem at_int {ns : List Int} {z n : Int} (k : atI ns z = some n) : atI (ns.map D.int) z = some (.int n) := by
  unfold atI at k ⊢
  rw [List.length_map]
  cases e : ixN ns.length z with
  | none => rw [e] at k; cases k
  | some j =>
    rw [e] at k
    show (ns.map D.int)[j]? = _
    rw [List.getElem?_map, show ns[j]? = some n from k]
    rfl
theorem at_of' {α : Type} {l : List α} {z : Int} {x : α} (h0 : 0 ≤ z) (h : l[z.toNat]? = some x) : atI l z = some x := by
  have e : z = (z.toNat : Int) := by omega
  rw [e]
  exact atI_nat (by simpa using h)
theorem at_getD {l : List Int} {z : Int} (h0 : 0 ≤ z) (h : z < l.length) : atI l z = some (l.getD z.toNat 0) := by
  refine at_of' h0 ?_
  have hl : z.toNat < l.length := by omega
  rw [List.getElem?_eq_getElem hl, List.getD_eq_getElem?_getD, List.getElem?_eq_getElem hl]
  rfl
theorem at_intD {l : List Int} {z : Int} (h0 : 0 ≤ z) (h : z < l.length) : atI (l.map D.int) z = some (.int (l.getD z.toNat 0)) := at_int (at_getD h0 h)
theorem at_back {l : List D} {x : D} : atI (l ++ [x]) (-1) = some x := atI_last l x
section
variable {X : Cx} {r r1 r2 : List Slot} {e a b c it elt : Expr} {es ts ifs : List Expr} {pos p px py : Pos} {d d1 d2 : D} {ds xs ys : List D} {ns : List Int} {i j n : Int} {x y : Str} {st : Stmt} {rest body : List Stmt} {N M : List Slot → Prop} {R : Slot → List Slot → Prop}
/-- sums, alls, anys of comprehensions -/
theorem map_ints {α : Type} (f : α → Int) (l : List α) : l.map (fun x => D.int (f x)) = (l.map f).map D.int := by rw [List.map_map]; rfl
theorem map_bls {α : Type} (f : α → Bool) (l : List α) : l.map (fun x => D.bl (f x)) = (l.map f).map D.bl := by rw [List.map_map]; rfl
theorem all_map {α : Type} (f : α → Bool) (l : List α) : (l.map f).all id = l.all f := by simp [List.all_map, Function.comp_def]
theorem any_map {α : Type} (f : α → Bool) (l : List α) : (l.map f).any id = l.any f := by simp [List.any_map, Function.comp_def]
theorem pb_sumF {α : Type} {f : α → Int} {l : List α} (B : Bi X.mg) (ha : PB X r a (.lst (l.map fun x => .int (f x)))) (hc : X.calm = true := by rfl) (hs : starEach [a] X.env = (false, eval a X.env) :: starEach [] X.env := by rfl) (hg : Gl X "sum" := by rfl) (hp : (backTo pos (starEach [] X.env)).any (·.1) = false := by rfl) : PB X r (.Call (.Name "sum" p) [a] [] pos) (.int (l.map f).sum) :=
  pb_sum B (by rw [← map_ints]; exact ha) hc hs hg hp
theorem pb_allF {α : Type} {f : α → Bool} {l : List α} (B : Bi X.mg) (ha : PB X r a (.lst (l.map fun x => .bl (f x)))) (hc : X.calm = true := by rfl) (hs : starEach [a] X.env = (false, eval a X.env) :: starEach [] X.env := by rfl) (hg : Gl X "all" := by rfl) (hp : (backTo pos (starEach [] X.env)).any (·.1) = false := by rfl) : PB X r (.Call (.Name "all" p) [a] [] pos) (.bl (l.all f)) :=
  pb_is (pb_all (ns := l.map f) B (by rw [← map_bls]; exact ha) hc hs hg hp) (by rw [all_map])
theorem pb_anyF {α : Type} {f : α → Bool} {l : List α} (B : Bi X.mg) (ha : PB X r a (.lst (l.map fun x => .bl (f x)))) (hc : X.calm = true := by rfl) (hs : starEach [a] X.env = (false, eval a X.env) :: starEach [] X.env := by rfl) (hg : Gl X "any" := by rfl) (hp : (backTo pos (starEach [] X.env)).any (·.1) = false := by rfl) : PB X r (.Call (.Name "any" p) [a] [] pos) (.bl (l.any f)) :=
  pb_is (pb_any (ns := l.map f) B (by rw [← map_bls]; exact ha) hc hs hg hp) (by rw [any_map])
/-- [elt for x in range(n)] -/
theorem po_R {scope : Scope} {cpos : Pos} (B : Bi X.mg) (j : Nat) {s : Slot} (nd : X.N.Nodup) (g : Nat → D) (ha : PB X r a (.int n)) (hn : n ≤ 16777216) (hn2 : -(2 ^ 62) ≤ n) (he : ∀ (k : Nat), (k : Int) < n → ∀ s H C cl fp, PP (Blk X scope s H C cl fp) (r.set j (.d (.int k))) elt (g k))
    (ok : BlkOk X.N X.env.scope scope [(x, j)] := by exact blkOk_by (by kernel_rfl)) (hb : BlkN X scope x px j := by first | exact fun _ _ _ _ _ => pg_name (by assumption) rfl (Or.inl rfl) | exact fun _ _ _ _ _ => pg_name (by assumption) rfl (Or.inr rfl)) (hr : r[j]? = some s := by rfl) (hc : X.calm = true := by rfl) (hg : Gl X "range" := by rfl) (hs : starEach [a] X.env = [(false, eval a X.env)] := by rfl) (hfs : ∀ x, foldedSetIterable (.Call (.Name "range" p) [a] [] cpos) X.env x = pure x := by intro _; rfl) :
    PO X r (.ListComp elt [⟨.Name x px, .Call (.Name "range" p) [a] [] cpos, [], 0⟩] scope pos) ((List.range n.toNat).map g) :=
  po_is (po_lcR B j nd (fun _ => true) g ha hn hn2 (fun _ _ _ _ _ _ _ => fq_nil) (fun k hk _ => he k hk) ok hb hr hc hg hs hfs) (madeD_all g _)
theorem hs_R {scope : Scope} {cpos spos : Pos} (i : Nat) {s1 : Slot} (sl : Slot) (B : Bi X.mg) (j : Nat) {s : Slot} (nd : X.N.Nodup) (g : Nat → D) (ha : PB X r a (.int n)) (hn : n ≤ 16777216) (hn2 : -(2 ^ 62) ≤ n) (he : ∀ (k : Nat), (k : Int) < n → ∀ s H C cl fp, PP (Blk X scope s H C cl fp) (r.set j (.d (.int k))) elt (g k))
    (hsl : sl = .o ((List.range n.toNat).map g) ∨ sl = .d (.lst ((List.range n.toNat).map g))) (k : HS X (r.set i sl) rest N R)
    (ok : BlkOk X.N X.env.scope scope [(x, j)] := by exact blkOk_by (by kernel_rfl)) (hb : BlkN X scope x px j := by first | exact fun _ _ _ _ _ => pg_name (by assumption) rfl (Or.inl rfl) | exact fun _ _ _ _ _ => pg_name (by assumption) rfl (Or.inr rfl)) (hr : r[j]? = some s := by rfl) (hc : X.calm = true := by rfl) (hg : Gl X "range" := by rfl) (hs : starEach [a] X.env = [(false, eval a X.env)] := by rfl) (hfs : ∀ x, foldedSetIterable (.Call (.Name "range" p) [a] [] cpos) X.env x = pure x := by intro _; rfl)
    (hr1 : r[i]? = some s1 := by rfl) (hy : X.N[i]? = some y := by rfl) (hyl : X.env.scope.names.lookup y = some .local := by rfl) (hsw : swapsWith (.ListComp elt [⟨.Name x px, .Call (.Name "range" p) [a] [] cpos, [], 0⟩] scope pos) (some (.Name y py)) spos.line X.env = pure true := by exact sw_true rfl rfl rfl (by kernel_rfl)) :
    HS X r (.Assign [.Name y py] (.ListComp elt [⟨.Name x px, .Call (.Name "range" p) [a] [] cpos, [], 0⟩] scope pos) spos :: rest) N R :=
  hs_lcR i sl B j nd (fun _ => true) g ha hn hn2 (fun _ _ _ _ _ _ _ => fq_nil) (fun k hk _ => he k hk) ok hb hr hc hg hs hfs (by rw [madeD_all]; exact hsl) k hr1 hy hyl hsw
/-- .. for x in xs, looked at by items -/
theorem po_L {scope : Scope} (j : Nat) {s : Slot} (nd : X.N.Nodup) (f : D → Bool) (g : D → D) (ha : PP X r a (.lst ds)) (hn : ds.length ≤ sizeLine) (ht : ∀ d, d ∈ ds → ∀ s H C cl fp, FQ (Blk X scope s H C cl fp) (r.set j (.d d)) ifs (f d)) (he : ∀ d, d ∈ ds → f d = true → ∀ s H C cl fp, PP (Blk X scope s H C cl fp) (r.set j (.d d)) elt (g d))
    (ok : BlkOk X.N X.env.scope scope [(x, j)] := by exact blkOk_by (by kernel_rfl)) (hb : BlkN X scope x px j := by first | exact fun _ _ _ _ _ => pg_name (by assumption) rfl (Or.inl rfl) | exact fun _ _ _ _ _ => pg_name (by assumption) rfl (Or.inr rfl)) (hr : r[j]? = some s := by rfl) (hc : X.calm = true := by rfl) (hfs : ∀ x, foldedSetIterable a X.env x = pure x := by intro _; rfl) :
    PO X r (.ListComp elt [⟨.Name x px, a, ifs, 0⟩] scope pos) ((ds.filter f).map g) :=
  po_is (po_lcL (cpos := pos) j nd (fun k => f (ds.getD k .non)) (fun k => g (ds.getD k .non)) ha hn (fun k d hd => by rw [getD_of hd]; exact ht d (List.mem_of_getElem? hd)) (fun k d hd => by rw [getD_of hd]; exact he d (List.mem_of_getElem? hd)) ok hb hr hc hfs) (madeD_full f g ds)
theorem po_T {scope : Scope} (j : Nat) {s : Slot} (nd : X.N.Nodup) (f : D → Bool) (g : D → D) (ha : PP X r a (.tup ds)) (hn : ds.length ≤ sizeLine) (ht : ∀ d, d ∈ ds → ∀ s H C cl fp, FQ (Blk X scope s H C cl fp) (r.set j (.d d)) ifs (f d)) (he : ∀ d, d ∈ ds → f d = true → ∀ s H C cl fp, PP (Blk X scope s H C cl fp) (r.set j (.d d)) elt (g d))
    (ok : BlkOk X.N X.env.scope scope [(x, j)] := by exact blkOk_by (by kernel_rfl)) (hb : BlkN X scope x px j := by first | exact fun _ _ _ _ _ => pg_name (by assumption) rfl (Or.inl rfl) | exact fun _ _ _ _ _ => pg_name (by assumption) rfl (Or.inr rfl)) (hr : r[j]? = some s := by rfl) (hc : X.calm = true := by rfl) (hfs : ∀ x, foldedSetIterable a X.env x = pure x := by intro _; rfl) :
    PO X r (.ListComp elt [⟨.Name x px, a, ifs, 0⟩] scope pos) ((ds.filter f).map g) :=
  po_is (po_lcT (cpos := pos) j nd (fun k => f (ds.getD k .non)) (fun k => g (ds.getD k .non)) ha hn (fun k d hd => by rw [getD_of hd]; exact ht d (List.mem_of_getElem? hd)) (fun k d hd => by rw [getD_of hd]; exact he d (List.mem_of_getElem? hd)) ok hb hr hc hfs) (madeD_full f g ds)
/-- .. for x in xs, ints -/
theorem po_I {scope : Scope} (j : Nat) {s : Slot} (nd : X.N.Nodup) (f : Int → Bool) (g : Int → D) (ha : PB X r a (.lst (ns.map .int))) (hn : ns.length ≤ sizeLine) (ht : ∀ z, z ∈ ns → ∀ s H C cl fp, FQ (Blk X scope s H C cl fp) (r.set j (.d (.int z))) ifs (f z)) (he : ∀ z, z ∈ ns → f z = true → ∀ s H C cl fp, PP (Blk X scope s H C cl fp) (r.set j (.d (.int z))) elt (g z))
    (ok : BlkOk X.N X.env.scope scope [(x, j)] := by exact blkOk_by (by kernel_rfl)) (hb : BlkN X scope x px j := by first | exact fun _ _ _ _ _ => pg_name (by assumption) rfl (Or.inl rfl) | exact fun _ _ _ _ _ => pg_name (by assumption) rfl (Or.inr rfl)) (hr : r[j]? = some s := by rfl) (hc : X.calm = true := by rfl) (hfs : ∀ x, foldedSetIterable a X.env x = pure x := by intro _; rfl) :
    PO X r (.ListComp elt [⟨.Name x px, a, ifs, 0⟩] scope pos) ((ns.filter f).map g) :=
  po_is (po_lcB (cpos := pos) j nd (fun k => ofI f false ((ns.map D.int).getD k .non)) (fun k => ofI g .non ((ns.map D.int).getD k .non)) ha sc_ints (by rw [List.length_map]; exact hn)
    (fun k d hd => by
      rw [getD_of hd]
      obtain ⟨z, hz, rfl⟩ := ints_get hd
      exact ht z (List.mem_of_getElem? hz)) (fun k d hd => by
      rw [getD_of hd]
      obtain ⟨z, hz, rfl⟩ := ints_get hd
      exact he z (List.mem_of_getElem? hz)) ok hb hr hc hfs) ((madeD_full (ofI f false) (ofI g .non) (ns.map D.int)).trans (made_ints f g ns))
/-- .. without an if -/
theorem po_I0 {scope : Scope} (j : Nat) {s : Slot} (nd : X.N.Nodup) (g : Int → D) (ha : PB X r a (.lst (ns.map .int))) (hn : ns.length ≤ sizeLine) (he : ∀ z, z ∈ ns → ∀ s H C cl fp, PP (Blk X scope s H C cl fp) (r.set j (.d (.int z))) elt (g z))
    (ok : BlkOk X.N X.env.scope scope [(x, j)] := by exact blkOk_by (by kernel_rfl)) (hb : BlkN X scope x px j := by first | exact fun _ _ _ _ _ => pg_name (by assumption) rfl (Or.inl rfl) | exact fun _ _ _ _ _ => pg_name (by assumption) rfl (Or.inr rfl)) (hr : r[j]? = some s := by rfl) (hc : X.calm = true := by rfl) (hfs : ∀ x, foldedSetIterable a X.env x = pure x := by intro _; rfl) :
    PO X r (.ListComp elt [⟨.Name x px, a, [], 0⟩] scope pos) (ns.map g) :=
  po_is (po_I j nd (fun _ => true) g ha hn (fun _ _ _ _ _ _ _ => fq_nil) (fun z hz _ => he z hz) ok hb hr hc hfs) (by rw [filter_yes])
theorem hs_I {scope : Scope} {spos : Pos} (i : Nat) {s1 : Slot} (sl : Slot) (j : Nat) {s : Slot} (nd : X.N.Nodup) (f : Int → Bool) (g : Int → D) (ha : PB X r a (.lst (ns.map .int))) (hn : ns.length ≤ sizeLine) (ht : ∀ z, z ∈ ns → ∀ s H C cl fp, FQ (Blk X scope s H C cl fp) (r.set j (.d (.int z))) ifs (f z)) (he : ∀ z, z ∈ ns → f z = true → ∀ s H C cl fp, PP (Blk X scope s H C cl fp) (r.set j (.d (.int z))) elt (g z))
    (hsl : sl = .o ((ns.filter f).map g) ∨ sl = .d (.lst ((ns.filter f).map g))) (k : HS X (r.set i sl) rest N R)
    (ok : BlkOk X.N X.env.scope scope [(x, j)] := by exact blkOk_by (by kernel_rfl)) (hb : BlkN X scope x px j := by first | exact fun _ _ _ _ _ => pg_name (by assumption) rfl (Or.inl rfl) | exact fun _ _ _ _ _ => pg_name (by assumption) rfl (Or.inr rfl)) (hr : r[j]? = some s := by rfl) (hc : X.calm = true := by rfl) (hfs : ∀ x, foldedSetIterable a X.env x = pure x := by intro _; rfl)
    (hr1 : r[i]? = some s1 := by rfl) (hy : X.N[i]? = some y := by rfl) (hyl : X.env.scope.names.lookup y = some .local := by rfl) (hsw : swapsWith (.ListComp elt [⟨.Name x px, a, ifs, 0⟩] scope pos) (some (.Name y py)) spos.line X.env = pure true := by exact sw_true rfl rfl rfl (by kernel_rfl)) :
    HS X r (.Assign [.Name y py] (.ListComp elt [⟨.Name x px, a, ifs, 0⟩] scope pos) spos :: rest) N R :=
  hs_lcB (cpos := pos) i sl j nd (fun k => ofI f false ((ns.map D.int).getD k .non)) (fun k => ofI g .non ((ns.map D.int).getD k .non)) ha sc_ints (by rw [List.length_map]; exact hn)
    (fun k d hd => by
      rw [getD_of hd]
      obtain ⟨z, hz, rfl⟩ := ints_get hd
      exact ht z (List.mem_of_getElem? hz)) (fun k d hd => by
      rw [getD_of hd]
      obtain ⟨z, hz, rfl⟩ := ints_get hd
      exact he z (List.mem_of_getElem? hz)) ok hb hr hc hfs (by rw [madeD_full (ofI f false) (ofI g .non) (ns.map D.int), made_ints]; exact hsl) k hr1 hy hyl hsw
/-- for x in xs, ints -/
theorem s1_forI {fpos : Pos} (i : Nat) {s : Nat → Slot} (nd : X.N.Nodup) (I : Nat → List Slot) (ha : PP X r it (.lst (ns.map .int))) (h0 : Le r (I 0)) (hb : ∀ (k : Nat) (z : Int), ns[k]? = some z → HS X ((I k).set i (.d (.int z))) body (fun r' => Le r' (I (k + 1))) R) (m : M (I ns.length))
    (hr : ∀ k, (I k)[i]? = some (s k) := by intro _; rfl) (hN : X.N[i]? = some x := by rfl) (hx : Loc X.env.scope x := by first | exact Or.inl rfl | exact Or.inr rfl) (hf : X.fn x = true ∨ X.env.scope.names.lookup x = some .local := by first | exact .inl rfl | exact .inr rfl)
    (hp : PassesOwn (model X.prog X.w) X.A X.env X.xe := by exact PassesOwn.never) (hc : X.calm = true := by rfl) (hfs : ∀ x, foldedSetIterable it X.env x = pure x := by intro _; rfl) : S1 X r (.For (.Name x px) it body [] fpos) M R :=
  s1_forL I (fun k => (I k).set i (.d ((ns.map D.int).getD k .non))) ha h0 (fun k d hd => by rw [getD_of hd]; exact gq_n i nd (hr k) hN hx hf) (fun k d hd => by
    rw [getD_of hd]
    obtain ⟨z, hz, rfl⟩ := ints_get hd
    exact hb k z hz) (by rw [List.length_map]; exact m) hp hc hfs
/-- for a, b in enumerate(xs), ints -/
theorem s1_forEI {fpos tpos : Pos} {cpos : Pos} {kt : Nat} (B : Bi X.mg) (i j : Nat) {s s2 : Nat → Slot} (nd : X.N.Nodup) (I : Nat → List Slot) (ha : PP X r it (.lst (ns.map .int))) (h0 : Le r (I 0)) (hb : ∀ (k : Nat) (z : Int), ns[k]? = some z → HS X (((I k).set i (.d (.int k))).set j (.d (.int z))) body (fun r' => Le r' (I (k + 1))) R) (m : M (I ns.length))
    (hij : i ≠ j := by decide) (hr : ∀ k, (I k)[i]? = some (s k) := by intro _; rfl) (hr2 : ∀ k, (I k)[j]? = some (s2 k) := by intro _; rfl) (hN : X.N[i]? = some x := by rfl) (hx : Loc X.env.scope x := by first | exact Or.inl rfl | exact Or.inr rfl) (hf : X.fn x = true ∨ X.env.scope.names.lookup x = some .local := by first | exact .inl rfl | exact .inr rfl)
    (hN2 : X.N[j]? = some y := by rfl) (hx2 : Loc X.env.scope y := by first | exact Or.inl rfl | exact Or.inr rfl) (hf2 : X.fn y = true ∨ X.env.scope.names.lookup y = some .local := by first | exact .inl rfl | exact .inr rfl)
    (hs1 : (assignEach [.Name x px, .Name y py] X.env).map (·.2) = assign (.Name x px) X.env :: (assignEach [.Name y py] X.env).map (·.2) := by rfl) (hs2 : (assignEach [.Name y py] X.env).map (·.2) = assign (.Name y py) X.env :: (assignEach [] X.env).map (·.2) := by rfl) (hal : (assignEach [.Name x px, .Name y py] X.env).length = 2 := by rfl) (hst : (assignEach [.Name x px, .Name y py] X.env).findIdx? (·.1) = none := by rfl)
    (hp : PassesOwn (model X.prog X.w) X.A X.env X.xe := by exact PassesOwn.never) (hc : X.calm = true := by rfl) (hgl : Gl X "enumerate" := by rfl) (hs : starEach [it] X.env = [(false, eval it X.env)] := by rfl) (hfs : ∀ x, foldedSetIterable (.Call (.Name "enumerate" p) [it] [] cpos) X.env x = pure x := by intro _; rfl) :
    S1 X r (.For (.Tuple [.Name x px, .Name y py] kt tpos) (.Call (.Name "enumerate" p) [it] [] cpos) body [] fpos) M R :=
  s1_forE B I (fun k => ((I k).set i (.d (.int k))).set j (.d ((ns.map D.int).getD k .non))) ha h0 (fun k d hd => by
    rw [getD_of hd]
    exact gq_t (gqs_cons (gq_n i nd (hr k) hN hx hf) (gqs_cons (gq_n j nd (by rw [List.getElem?_set_ne hij]; exact hr2 k) hN2 hx2 hf2) gqs_nil hs2) hs1) hc hal hst) (fun k d hd => by
    rw [getD_of hd]
    obtain ⟨z, hz, rfl⟩ := ints_get hd
    exact hb k z hz) (by rw [List.length_map]; exact m) hp hc hgl hs hfs
end
end DL

/-! Part 9: more operations: in, == of data, aug, several targets with own lists, list methods. -/
namespace DL
open PySem PySem.Spec PyProof.Rows L2

/-! ### plain data as PyData -/
mutual
def toPy : D → PyData
  | .non => .none
  | .bl b => .bool b
  | .int i => .int i
  | .str x => .str x
  | .lst xs => .list (toPys xs)
  | .tup xs => .tuple (toPys xs)
  | .scr ns => .list (ns.map .int)
  | .val _ => .none
  | .ins _ _ _ => .none
  | .fn _ => .none
  | .dct => .none
def toPys : List D → List PyData
  | [] => []
  | d :: ds => toPy d :: toPys ds
end
/-- plain, at most n deep -/
inductive Pl : Nat → D → Prop
  | non {n : Nat} : Pl n .non
  | bl {n : Nat} {b : Bool} : Pl n (.bl b)
  | int {n : Nat} {i : Int} : Pl n (.int i)
  | str {n : Nat} {x : Str} : PyData.canLay0 (.str x) = true → Pl n (.str x)
  | lst {n : Nat} {ds : List D} : (∀ d, d ∈ ds → Pl n d) → Pl (n + 1) (.lst ds)
  | tup {n : Nat} {ds : List D} : (∀ d, d ∈ ds → Pl n d) → Pl (n + 1) (.tup ds)
  | scr {n : Nat} {ns : List Int} : Pl (n + 1) (.scr ns)
theorem lay_ints : ∀ ns : List Int, PyData.canLayAll0 (ns.map .int) = true ∧ PyData.depthAll (ns.map .int) = 0
  | [] => ⟨rfl, rfl⟩
  | n :: ns => by
    obtain ⟨a, b⟩ := lay_ints ns
    refine ⟨?_, ?_⟩
    · show (PyData.canLay0 (.int n) && PyData.canLayAll0 (ns.map .int)) = true
      rw [a]; rfl
    · show max (PyData.depth (.int n)) (PyData.depthAll (ns.map .int)) = 0
      rw [b]; rfl
mutual
theorem Pl.lay : ∀ (d : D) (n : Nat), Pl n d → PyData.canLay0 (toPy d) = true ∧ PyData.depth (toPy d) ≤ n
  | .non, _, _ => ⟨rfl, Nat.zero_le _⟩
  | .bl _, _, _ => ⟨rfl, Nat.zero_le _⟩
  | .int _, _, _ => ⟨rfl, Nat.zero_le _⟩
  | .str _, _, h => by cases h with | str h => exact ⟨h, Nat.zero_le _⟩
  | .lst ds, _, h => by
    cases h with
    | lst h => obtain ⟨a, b⟩ := Pl.lays ds _ h; exact ⟨a, Nat.succ_le_succ b⟩
  | .tup ds, _, h => by
    cases h with
    | tup h => obtain ⟨a, b⟩ := Pl.lays ds _ h; exact ⟨a, Nat.succ_le_succ b⟩
  | .scr ns, _, h => by
    cases h with
    | scr => exact ⟨(lay_ints ns).1, by show PyData.depthAll (ns.map .int) + 1 ≤ _; rw [(lay_ints ns).2]; omega⟩
  | .val _, _, h => by cases h
  | .ins _ _ _, _, h => by cases h
  | .fn _, _, h => by cases h
  | .dct, _, h => by cases h
theorem Pl.lays : ∀ (ds : List D) (n : Nat), (∀ d, d ∈ ds → Pl n d) → PyData.canLayAll0 (toPys ds) = true ∧ PyData.depthAll (toPys ds) ≤ n
  | [], _, _ => ⟨rfl, Nat.zero_le _⟩
  | d :: ds, n, h => by
    obtain ⟨a, b⟩ := Pl.lay d n (h d (List.mem_cons_self ..))
    obtain ⟨a', b'⟩ := Pl.lays ds n fun x hx => h x (List.mem_cons_of_mem _ hx)
    refine ⟨?_, Nat.max_le.mpr ⟨b, b'⟩⟩
    show (_ && _) = true
    rw [a, a']; rfl
end
theorem Pl.shaped {d : D} {n : Nat} (h : Pl n d) (hn : n ≤ 64) : SeqAt.shaped (toPy d) = true := by
  obtain ⟨a, b⟩ := Pl.lay d n h
  unfold SeqAt.shaped
  rw [a, decide_eq_true (Nat.le_trans b hn)]; rfl
theorem Pl.ints {n : Nat} {ns : List Int} : Pl (n + 1) (D.ints ns) := .lst fun d hd => by
  obtain ⟨z, _, rfl⟩ := List.mem_map.mp hd
  exact .int
theorem Pl.nil {n : Nat} : Pl (n + 1) (.lst []) := .lst fun d hd => by cases hd
theorem Pl.cons {n : Nat} {d : D} {ds : List D} (h : Pl n d) (t : Pl (n + 1) (.lst ds)) : Pl (n + 1) (.lst (d :: ds)) := .lst fun x hx => by
  cases t with
  | lst t =>
    rcases List.mem_cons.mp hx with rfl | hx
    · exact h
    · exact t x hx
theorem Pl.tnil {n : Nat} : Pl (n + 1) (.tup []) := .tup fun d hd => by cases hd
theorem Pl.tcons {n : Nat} {d : D} {ds : List D} (h : Pl n d) (t : Pl (n + 1) (.tup ds)) : Pl (n + 1) (.tup (d :: ds)) := .tup fun x hx => by
  cases t with
  | tup t =>
    rcases List.mem_cons.mp hx with rfl | hx
    · exact h
    · exact t x hx
/-- == of data, as Python has it -/
def eqD (a b : D) : Bool := PyData.eqv (toPy a) (toPy b)
theorem eqD_self {d : D} {n : Nat} (h : Pl n d) : eqD d d = true := SeqAt.eqv_refl _ (Pl.lay d n h).1
theorem eqvs_ints : ∀ a b : List Int, PyData.eqvAll (toPys (a.map D.int)) (toPys (b.map D.int)) = decide (a = b)
  | [], [] => rfl
  | [], _ :: _ => rfl
  | _ :: _, [] => rfl
  | x :: a, y :: b => by
    show ((x == y) && PyData.eqvAll (toPys (a.map D.int)) (toPys (b.map D.int))) = _
    rw [eqvs_ints a b]
    by_cases h : x = y <;> by_cases h' : a = b <;> simp [h, h']
theorem eqD_ints (a b : List Int) : eqD (D.ints a) (D.ints b) = decide (a = b) := eqvs_ints a b
theorem toPys_map (ds : List D) : toPys ds = ds.map toPy := by
  induction ds with
  | nil => rfl
  | cons d ds ih => show toPy d :: toPys ds = _; rw [ih]; rfl
section
variable {K : PySem.W.Frag} {G : Hp}
theorem dpAll_ints : ∀ ns : List Int, DpAll K G (ns.map V.int) (ns.map PyData.int)
  | [] => .nil
  | n :: ns => .cons (.int n) (dpAll_ints ns)
mutual
theorem Dt.dp : ∀ (d : D) (v : V) (n : Nat), Pl n d → Dt K G v d → Dp K G v (toPy d)
  | .non, _, _, _, h => by cases h; exact .non
  | .bl _, _, _, _, h => by cases h; exact .bl _
  | .int _, _, _, _, h => by cases h; exact .int _
  | .str _, _, _, _, h => by cases h; exact .str _
  | .lst ds, _, _, p, h => by
    cases p with
    | lst p => cases h with
      | lst h1 h2 => exact .lst (SqL.of h1) (DtAll.dp ds _ _ p h2)
  | .tup ds, _, _, p, h => by
    cases p with
    | tup p => cases h with
      | tup h1 h2 => exact .tup (SqT.of h1) (DtAll.dp ds _ _ p h2)
  | .scr ns, _, _, _, h => by cases h with | scr h1 => exact .lst h1 (dpAll_ints ns)
  | .val _, _, _, p, _ => by cases p
  | .ins _ _ _, _, _, p, _ => by cases p
  | .fn _, _, _, p, _ => by cases p
  | .dct, _, _, p, _ => by cases p
theorem DtAll.dp : ∀ (ds : List D) (vs : List V) (n : Nat), (∀ d, d ∈ ds → Pl n d) → DtAll K G vs ds → DpAll K G vs (toPys ds)
  | [], _, _, _, h => by cases h; exact .nil
  | d :: ds, _, n, p, h => by
    cases h with
    | cons h1 h2 => exact .cons (Dt.dp d _ n (p d (List.mem_cons_self ..)) h1) (DtAll.dp ds _ n (fun x hx => p x (List.mem_cons_of_mem _ hx)) h2)
end
end
section
variable {X : Cx} {d d1 d2 : D}
theorem cr_eqP {n m k : Nat} (hr : Room k X.A) (p1 : Pl n d1) (p2 : Pl m d2) (hn : n ≤ 64 := by decide) (hm : m ≤ 64 := by decide) : CR X .Eq d1 d2 (eqD d1 d2) :=
  ⟨_, op_eqD hr.units, fun v1 v2 H Q k1 k2 q => ⟨_, _, Dt.dp _ _ n p1 k1, Dt.dp _ _ m p2 k2, p1.shaped hn, p2.shaped hm, q⟩⟩
theorem cr_neP {n m k : Nat} (hr : Room k X.A) (p1 : Pl n d1) (p2 : Pl m d2) (hn : n ≤ 64 := by decide) (hm : m ≤ 64 := by decide) : CR X .NotEq d1 d2 (!eqD d1 d2) :=
  ⟨_, op_neD hr.units, fun v1 v2 H Q k1 k2 q => ⟨_, _, Dt.dp _ _ n p1 k1, Dt.dp _ _ m p2 k2, p1.shaped hn, p2.shaped hm, q⟩⟩
theorem cr_eqL {k : Nat} {a b : List Int} (hr : Room k X.A) : CR X .Eq (D.ints a) (D.ints b) (decide (a = b)) := by
  rw [← eqD_ints]; exact cr_eqP hr (n := 1) (m := 1) .ints .ints
theorem cr_neL {k : Nat} {a b : List Int} (hr : Room k X.A) : CR X .NotEq (D.ints a) (D.ints b) (!decide (a = b)) := by
  rw [← eqD_ints]; exact cr_neP hr (n := 1) (m := 1) .ints .ints
/-- equal data -/
theorem cr_eqS {n k : Nat} (hr : Room k X.A) (p : Pl n d) (hn : n ≤ 64 := by decide) : CR X .Eq d d true := by
  have h := cr_eqP hr p p hn hn
  rw [eqD_self p] at h; exact h
theorem cr_neS {n k : Nat} (hr : Room k X.A) (p : Pl n d) (hn : n ≤ 64 := by decide) : CR X .NotEq d d false := by
  have h := cr_neP hr p p hn hn
  rw [eqD_self p] at h; exact h

/-! ### in -/
def toV : D → V
  | .non => .non
  | .bl b => .bl b
  | .int i => .int i
  | .str x => .str x
  | _ => .non
/-- a datum without parts -/
inductive Fl : D → Prop
  | non : Fl .non
  | bl {b : Bool} : Fl (.bl b)
  | int {i : Int} : Fl (.int i)
  | str {x : Str} : Fl (.str x)
theorem Fl.v {K : PySem.W.Frag} {G : Hp} {v : V} {d : D} (f : Fl d) (h : Dt K G v d) : v = toV d ∧ flatV v = true := by
  cases f <;> cases h <;> exact ⟨rfl, rfl⟩
theorem Fl.vs {K : PySem.W.Frag} {G : Hp} : ∀ {vs : List V} {ds : List D}, (∀ d, d ∈ ds → Fl d) → DtAll K G vs ds → vs = ds.map toV ∧ vs.all flatV = true
  | _, _, _, .nil => ⟨rfl, rfl⟩
  | _, _, f, .cons h t => by
    obtain ⟨a, b⟩ := (f _ (List.mem_cons_self ..)).v h
    obtain ⟨a', b'⟩ := Fl.vs (fun d hd => f d (List.mem_cons_of_mem _ hd)) t
    refine ⟨by rw [a, a']; rfl, ?_⟩
    rw [List.all_cons, b, b']; rfl
/-- d in ds -/
def inD (d : D) (ds : List D) : Bool := inV (toV d) (ds.map toV)
theorem cr_inL {ds : List D} (f : Fl d) (fs : ∀ x, x ∈ ds → Fl x) : CR X .In d (.lst ds) (inD d ds) := ⟨_, op_in_seq, fun v1 v2 H Q k1 k2 q => by
  cases k2 with
  | lst h1 h2 =>
    obtain ⟨a, b⟩ := f.v k1
    obtain ⟨a', b'⟩ := Fl.vs fs h2
    exact ⟨_, _, rfl, .inl (SqL.of h1), b, b', by rw [a, a']; exact q⟩⟩
theorem cr_inT {ds : List D} (f : Fl d) (fs : ∀ x, x ∈ ds → Fl x) : CR X .In d (.tup ds) (inD d ds) := ⟨_, op_in_seq, fun v1 v2 H Q k1 k2 q => by
  cases k2 with
  | tup h1 h2 =>
    obtain ⟨a, b⟩ := f.v k1
    obtain ⟨a', b'⟩ := Fl.vs fs h2
    exact ⟨_, _, rfl, .inr (SqT.of h1), b, b', by rw [a, a']; exact q⟩⟩
theorem cr_notinL {ds : List D} (f : Fl d) (fs : ∀ x, x ∈ ds → Fl x) : CR X .NotIn d (.lst ds) (!inD d ds) := ⟨_, op_notIn_seq, fun v1 v2 H Q k1 k2 q => by
  cases k2 with
  | lst h1 h2 =>
    obtain ⟨a, b⟩ := f.v k1
    obtain ⟨a', b'⟩ := Fl.vs fs h2
    exact ⟨_, _, rfl, .inl (SqL.of h1), b, b', by rw [a, a']; exact q⟩⟩
theorem fl_ints {ns : List Int} : ∀ x, x ∈ ns.map D.int → Fl x := fun d hd => by
  obtain ⟨z, _, rfl⟩ := List.mem_map.mp hd
  exact .int
theorem inD_ints (i : Int) : ∀ ns : List Int, inD (.int i) (ns.map D.int) = decide (i ∈ ns)
  | [] => rfl
  | n :: ns => by
    have ih := inD_ints i ns
    unfold inD inV at ih ⊢
    rw [List.map_cons, List.map_cons, List.any_cons, ih]
    show ((n == i) || _) = _
    by_cases h : n = i
    · subst h; simp
    · have h' : ¬ i = n := fun z => h z.symm
      simp [h, h']
end
end DL

/-! set(xs) of a list of ints; sorted(set(xs)). -/
namespace DL
open PySem PySem.Spec PyProof.Rows L2
/-- the empty set as set.__new__ makes it -/
abbrev newSet (w : World) : Obj := { cls := .type "set", dict := none, data := .set #[] 0 (.fresh 0 0 (!w.params.followText "set-order")) }
section
variable {P : Program} {w : World} {A : Around} {E : Value → Shared → Prop} {s : Shared}
set_option maxHeartbeats 3200000 in
/-- set.__init__ over a list of ints, on the set just made -/
theorem init_set_list {l : Addr} {its : Array Value} {ns : List Int} {R : Value → Shared → Prop} (hh : A.handled = none) (hl : s.heap.IsList l its) (hi : IntsAre its.toList ns) (hb : ns.length + 1 < scanBound)
    (q : ∀ (h' : Heap) (tk c : Nat), SetR w h' s.heap.objs.size (fun j => decide (j ∈ ns)) c → c ≤ ns.length → (∀ b o, s.heap.get? b = some o → h'.get? b = some o) → R .none { s with heap := h', toks := tk }) :
    codeAny (model P w) A (.call (.builtin "set.__init__") ⟨[.ref s.heap.objs.size, .ref l], []⟩) (wants R E) { s with heap := s.heap.push (newSet w) } := by
  have sz : its.size = ns.length := by
    have z := IntsAre.length hi
    rw [Array.length_toList] at z; exact z
  have at0 : (s.heap.push (newSet w)).get? s.heap.objs.size = some (newSet w) := Heap.get?_push_size _ rfl
  have ty0 : Shared.TypeIs { s with heap := s.heap.push (newSet w) } (.ref s.heap.objs.size) "set" := ⟨_, at0, rfl⟩
  refine codeAny_call_builtin F.called_set.init.plain F.entry_set_init (check_set_init_1 ty0 ?_)
  obtain ⟨ol, eol, ecl, nl, edl⟩ := hl
  obtain ⟨oc, od, oda, osl⟩ := ol
  simp only at ecl edl
  subst ecl; subst edl
  have lt0 : l < s.heap.objs.size := Heap.lt_size eol
  have at1 : (s.heap.push (newSet w)).get? l = some { cls := .type "list", dict := od, data := .seq its nl, slots := osl } := Heap.get?_push_of_some _ eol
  have isl : (s.heap.push (newSet w)).IsList l its := ⟨_, at1, rfl, nl, rfl⟩
  have n1 := F.sub_list_set
  have n2 := F.sub_list_frozenset
  have n3 : (Value.type "list" == Value.type "dict") = false := by decide
  unfold Builtin.«set.__init__» noKeywords Builtin.Frozenset.updateFrom
  generalize gen : pyIter = PI
  wp_walk
  subst gen
  refine wpAny_pyIter_list isl (wpAny_bind (wpAny_runValue ?_))
  have h3 : A.in1.in1.handled = none := by simp [hh]
  have ne1 : l ≠ (s.heap.push (newSet w)).objs.size := by rw [Heap.size_push]; exact Nat.ne_of_lt (Nat.lt_succ_of_lt lt0)
  have out : s.heap.objs.size ∉ [(s.heap.push (newSet w)).objs.size, l] := by
    rw [Heap.size_push]
    intro z
    rcases List.mem_cons.mp z with z | z
    · exact Nat.ne_of_lt (Nat.lt_succ_self _) z
    · exact Nat.ne_of_gt lt0 (List.mem_singleton.mp z)
  have vals : ∀ (i : Nat) (v : Value), its[i]? = some v → ∃ k t, ns[i]? = some k ∧ v = .int k t := fun i v hv => by
    have li : i < ns.length := by rw [← sz]; exact (Array.getElem?_eq_some_iff.mp hv).1
    obtain ⟨t, e⟩ := PyProof.Rows.IntsAre.int_at hi i v (by rw [Array.getElem?_toList]; exact hv)
    refine ⟨ns[i], t, List.getElem?_eq_getElem li, ?_⟩
    rw [e, List.getD_eq_getElem?_getD, List.getElem?_eq_getElem li] <;> rfl
  refine set_update_ints ((Walks.list h3 _ l ne1 its).toS) s.heap.objs.size out ns sz hb vals (its.size - 0) 0 _ (by omega) (Nat.zero_le _) ?st ?zero ?last
  case st => exact ⟨⟨_, Heap.get?_push_size _ rfl, rfl, rfl⟩, isl.push _⟩
  case zero => exact ⟨0, Nat.le_refl 0, setR_new_at (Heap.get?_push_of_some _ at0)⟩
  intro s' c' mv hc' hS'
  obtain ⟨h', g2, d', tk', os'⟩ := s'
  have e1 : g2 = s.gens := mv.gens
  have e2 : d' = s.drawn := mv.drawn
  have e3 : os' = s.os := mv.os
  subst e1; subst e2; subst e3
  show wpAny _ _ _ _ _ _
  refine wpAny_pure ?_
  show wpAny _ _ (ret Value.none) _ _ _
  rw [sz] at hc'
  refine wpAny_pure (q h' tk' c' hS' hc' fun b o e => ?_)
  have b0 : b < s.heap.objs.size := Heap.lt_size e
  refine mv.heap b o (fun z => ?_) (Heap.get?_push_of_some _ (Heap.get?_push_of_some _ e))
  rcases List.mem_cons.mp z with z | z
  · exact Nat.ne_of_lt b0 z
  · have z' := List.mem_singleton.mp z
    rw [Heap.size_push] at z'
    exact Nat.ne_of_lt (Nat.lt_succ_of_lt b0) z'
set_option maxHeartbeats 3200000 in
theorem call_set_ints {l : Addr} {its : Array Value} {ns : List Int} {Q : Value → Shared → Prop} (hh : A.handled = none) (hl : s.heap.IsList l its) (hi : IntsAre its.toList ns) (hb : ns.length + 1 < scanBound)
    (q : ∀ (h' : Heap) (tk c : Nat), SetR w h' s.heap.objs.size (fun j => decide (j ∈ ns)) c → c ≤ ns.length → (∀ b o, s.heap.get? b = some o → h'.get? b = some o) → Q (.ref s.heap.objs.size) { s with heap := h', toks := tk }) :
    wpAny (model P w) A (call (.type "set") [.ref l]) Q E s := by
  obtain ⟨c, tl, hmro⟩ := F.called_set.mro
  have m1 := F.called_set.made
  have m2 := F.called_set.sub
  refine wpAny_call (codeAny_of_tree ?_)
  show wpAny _ _ (callAny (.type "set") _) _ _ _
  refine wpAny_pure ⟨Code.quiet_builtin _ (by decide +kernel), codeAny_builtin F.entry_type_call ?_⟩
  rw [Around.under_plain (weight_type_call_type "set" [.ref l] []) rfl]
  have m3 := F.called_set.notType
  have m4 := F.called_set.canCreate
  have m5 := F.typeCall_set_1 (.ref l)
  repeat (any_goals (first | assumption | wp_step))
  refine codeAny_mono (code_set_led1 (.ref l) (E := E) (Q₁ := fun ob s₁ => ob = .ref s.heap.objs.size ∧ s₁ = { s with heap := s.heap.push (newSet w) }) ⟨rfl, rfl⟩) fun r s₁ hr => ?_
  cases r with
  | error e => exact hr
  | ok fl =>
    cases fl with
    | ret ob =>
      obtain ⟨rfl, rfl⟩ := hr
      have ty0 : Shared.TypeIs { s with heap := s.heap.push (newSet w) } (.ref s.heap.objs.size) "set" := ⟨_, Heap.get?_push_size _ rfl, rfl⟩
      have m6 := F.called_set.init.lookup
      have m7 := F.called_set.init.bind (.ref s.heap.objs.size)
      repeat (any_goals (first | assumption | wp_step))
      refine codeAny_mono (init_set_list (E := E) (R := fun r s₂ => r = .none ∧ ∃ h' tk c, s₂ = { s with heap := h', toks := tk } ∧ SetR w h' s.heap.objs.size (fun j => decide (j ∈ ns)) c ∧ c ≤ ns.length ∧ ∀ b o, s.heap.get? b = some o → h'.get? b = some o) (by simp [hh]) hl hi hb fun h' tk c a1 a2 a3 => ⟨rfl, h', tk, c, rfl, a1, a2, a3⟩) fun r₂ s₂ hr₂ => ?_
      cases r₂ with
      | error e => exact hr₂
      | ok fl₂ =>
        cases fl₂ with
        | ret r =>
          obtain ⟨rfl, h', tk, c', rfl, a1, a2, a3⟩ := hr₂
          repeat (any_goals (first | assumption | wp_step))
          exact q _ _ _ a1 a2 a3
        | _ => exact hr₂.elim
    | _ => exact hr.elim
end
/-- set(xs), by values -/
def rSetI (K : PySem.W.Frag) (w : World) : List V → Hp → VK → Prop := fun vs H Q => ∃ (a : Addr) (ns : List Int), vs = [V.ref a] ∧ SqL K H a (ns.map V.int) ∧ ns.length + 1 < scanBound ∧
  ∀ p (ks : List Int), H p = none → ks.Nodup → (∀ k, k ∈ ks ↔ k ∈ ns) → Q (.ref p) (upd H p (SetO w p (fun j => decide (j ∈ ns)) ks.length))
section
variable {X : Cx}
theorem cr_setI (hc : X.calm = true) : CallR X (.type "set") (rSetI X.K X.w) := by
  intro pins s σ H vs us Q I r h
  obtain ⟨a, ns, rfl, hs, hb, q⟩ := h
  obtain ⟨its, rv, hl, hz⟩ := I.list hs
  rw [Vals.ref1 r]
  refine call_set_ints (I.ok.hd hc) hl.isList rv.ints hb fun h' tk c hS hc k => ?_
  have ⟨o, es, ep, t, ho, x1, x2, x3, x4, x5, x6, x7, x8, _⟩ := hS
  have el : (es.toList.map keyOf).length = c := by rw [List.length_map, Array.length_toList]; exact x8
  subst el
  exact ⟨.ref _, _, I.laid (t' := tk) k (Nat.le_refl _) (setO_new hS), rfl, q _ _ (I.hok.fresh (Nat.le_refl _)) x4 fun z => by rw [← x5 z]; simp⟩
end
/-! ### sorted, once each -/
def uins (x : Int) : List Int → List Int
  | [] => [x]
  | y :: ys => if x < y then x :: y :: ys else if x = y then y :: ys else y :: uins x ys
def usort : List Int → List Int
  | [] => []
  | x :: xs => uins x (usort xs)
theorem mem_uins (x k : Int) : ∀ ys : List Int, k ∈ uins x ys ↔ k = x ∨ k ∈ ys
  | [] => by simp [uins]
  | y :: ys => by
    unfold uins
    split
    · simp
    · split
      · rename_i h; subst h; simp
      · rw [List.mem_cons, mem_uins x k ys, List.mem_cons]
        constructor
        · rintro (h | h | h) <;> simp [h]
        · rintro (h | h | h) <;> simp [h]
theorem mem_usort (k : Int) : ∀ xs : List Int, k ∈ usort xs ↔ k ∈ xs
  | [] => by simp [usort]
  | x :: xs => by rw [usort, mem_uins, mem_usort k xs, List.mem_cons]
theorem sorted_uins (x : Int) : ∀ ys : List Int, ys.Pairwise (· < ·) → (uins x ys).Pairwise (· < ·)
  | [], _ => by simp [uins]
  | y :: ys, h => by
    have h' := List.pairwise_cons.mp h
    unfold uins
    split
    · rename_i l
      refine List.pairwise_cons.mpr ⟨fun a ha => ?_, h⟩
      rcases List.mem_cons.mp ha with rfl | ha
      · exact l
      · exact Int.lt_trans l (h'.1 a ha)
    · split
      · exact h
      · refine List.pairwise_cons.mpr ⟨fun a ha => ?_, sorted_uins x ys h'.2⟩
        rcases (mem_uins x a ys).mp ha with rfl | ha
        · omega
        · exact h'.1 a ha
theorem sorted_usort : ∀ xs : List Int, (usort xs).Pairwise (· < ·)
  | [] => .nil
  | x :: xs => sorted_uins x _ (sorted_usort xs)
/-- two rising lists of the same members are one -/
theorem rising_ext : ∀ {a b : List Int}, a.Pairwise (· < ·) → b.Pairwise (· < ·) → (∀ k, k ∈ a ↔ k ∈ b) → a = b
  | [], [], _, _, _ => rfl
  | [], y :: b, _, _, h => absurd ((h y).mpr (List.mem_cons_self ..)) (by simp)
  | x :: a, [], _, _, h => absurd ((h x).mp (List.mem_cons_self ..)) (by simp)
  | x :: a, y :: b, pa, pb, h => by
    have pa' := List.pairwise_cons.mp pa
    have pb' := List.pairwise_cons.mp pb
    have e : x = y := by
      have h1 := (h x).mp (List.mem_cons_self ..)
      have h2 := (h y).mpr (List.mem_cons_self ..)
      rcases List.mem_cons.mp h1 with e | m1
      · exact e
      · rcases List.mem_cons.mp h2 with e | m2
        · exact e.symm
        · have := pa'.1 y m2
          have := pb'.1 x m1
          omega
    subst e
    rw [rising_ext pa'.2 pb'.2 fun k => ?_]
    constructor
    · intro m
      rcases List.mem_cons.mp ((h k).mp (List.mem_cons_of_mem _ m)) with e | m'
      · have := pa'.1 k m; omega
      · exact m'
    · intro m
      rcases List.mem_cons.mp ((h k).mpr (List.mem_cons_of_mem _ m)) with e | m'
      · have := pb'.1 k m; omega
      · exact m'
theorem len_uins (x : Int) : ∀ ys : List Int, (uins x ys).length ≤ ys.length + 1
  | [] => by simp [uins]
  | y :: ys => by
    unfold uins
    have := len_uins x ys
    split
    · simp
    · split <;> simp <;> omega
theorem len_usort : ∀ xs : List Int, (usort xs).length ≤ xs.length
  | [] => Nat.le_refl _
  | x :: xs => Nat.le_trans (len_uins x _) (Nat.succ_le_succ (len_usort xs))
theorem nodup_of_rising {a : List Int} (h : a.Pairwise (· < ·)) : a.Nodup := h.imp fun h => by omega
theorem nodup_len {a b : List Int} (ha : a.Nodup) (hb : b.Nodup) (h : ∀ k, k ∈ a ↔ k ∈ b) : a.length = b.length :=
  ((List.perm_ext_iff_of_nodup ha hb).mpr h).length_eq
section
variable {X : Cx} {r : List Slot} {a : Expr} {pos p pos2 p2 : Pos} {ns : List Int}
/-- sorted(set(xs)) -/
theorem po_sortset (B : Bi X.mg) (ha : PB X r a (D.ints ns)) (hb : ns.length + 1 < scanBound) (h64 : (usort ns).length < 64) (hc : X.calm = true := by rfl)
    (hs : starEach [a] X.env = (false, eval a X.env) :: starEach [] X.env := by rfl) (hg : Gl X "set" := by rfl) (hp : (backTo pos2 (starEach [] X.env)).any (·.1) = false := by rfl)
    (hs2 : starEach [.Call (.Name "set" p2) [a] [] pos2] X.env = (false, eval (.Call (.Name "set" p2) [a] [] pos2) X.env) :: starEach [] X.env := by rfl) (hg2 : Gl X "sorted" := by rfl) (hp2 : (backTo pos (starEach [] X.env)).any (·.1) = false := by rfl) :
    PO X r (.Call (.Name "sorted" p) [.Call (.Name "set" p2) [a] [] pos2] [] pos) ((usort ns).map .int) := fun F G t H A Q q =>
  oE (pe_callB (cr_sortedSet hc) hg2 B.sorted (by decide +kernel) (pa_cons (pe_callTy (cr_setI hc) hg B.set (by decide +kernel) cA (he := hs) (hpl := hp)) pa_nil hs2) (he := hs2) (hpl := hp2)) (ab1 ha hs F G t H A _ fun vs G1 H1 e1 k1 => by
    cases k1 with
    | cons k1 k2 =>
      cases k2
      cases k1 with
      | lst h1 h2 =>
        rw [h2.ints_inv] at h1
        refine ⟨_, ns, rfl, SqL.of h1, hb, fun p ks np nd mk => ⟨p, _, _, rfl, upd_same, ?_, fun ms u rs mm lm nu => ?_⟩⟩
        · rw [nodup_len nd (nodup_of_rising (sorted_usort ns)) fun k => by rw [mk, mem_usort]]; exact h64
        · have em : ms = usort ns := rising_ext rs (sorted_usort ns) fun k => by rw [mm, mem_usort]; simp
          subst em
          have e2 : Ext G H G1 (upd H1 p (SetO X.w p (fun j => decide (j ∈ ns)) ks.length)) := e1.trans (Ext.newO e1.gh np)
          exact q u _ G1 _ (e2.trans (Ext.newO e2.gh nu)) (e2.h.free nu) (e2.gh.free nu) upd_same (DtAll.ints _))
end
end DL

/-! Part 10: several targets with own lists, moves, op=, list methods. -/
namespace DL
open PySem L2
section
variable {K : PySem.W.Frag} {G H : Hp} {F : Fr} {r : List Slot} {t : St}
theorem Slots.uniq {fp fp' : List Addr} (a : Slots K G H r t fp) (b : Slots K G H r t fp') : fp = fp' := At.asgO.Slots.same_fp a b (Same.refl H)
/-- new things go into a slot; the others are named by what stood ahead -/
theorem At.putN {H0 : Hp} {i : Nat} {s s' : Slot} {v' : Option V} {fp' : List Addr} (A : At K F G r t H) (hi : r[i]? = some s) (q : SlotOk K G H s' v' fp') (nd : fp'.Nodup) (n : ∀ a, a ∈ fp' → G a = none ∧ F.H a = none) (no : ∀ fp, Slots K G H r t fp → ∀ a, a ∈ fp' → a ∉ fp) :
    At K F G (r.set i s') (t.set i v') H := A.put hi q nd fun a ha => ⟨(n a ha).1, (n a ha).2, fun fp sl => no fp sl a ha⟩
end
/-- arguments as slots: data, or new lists of ours -/
def AS (X : Cx) (r : List Slot) (es : List Expr) (ss : List Slot) : Prop := ∀ (F : Fr) (G : Hp) (t : St) (H : Hp), At X.K F G r t H → ∀ Q : List V → Hp → Prop,
  (∀ vs G' H' fp, Ext G H G' H' → Slots X.K G' H' ss (vs.map some) fp → fp.Nodup → (∀ a, a ∈ fp → H a = none ∧ G' a = none) → Q vs H') → tAr X es t H Q
section
variable {X : Cx} {r r1 : List Slot} {e a b c : Expr} {es : List Expr} {pos p px py pz pt pt2 : Pos} {kt k2 : Nat} {d d1 d2 : D} {ds xs ys : List D} {i j l : Nat} {x y z : Str} {ss : List Slot} {s1 s2 s3 u1 u2 u3 : Slot} {st : Stmt} {rest body : List Stmt} {N M : List Slot → Prop} {R : Slot → List Slot → Prop}
theorem as_nil : AS X r [] [] := fun F G t H A Q q => oA pa_nil (q [] G H [] (Ext.refl A.gh) .nil List.nodup_nil fun a ha => by cases ha)
theorem as_d (ha : PP X r e d) (hr : AS X r es ss) (hs : starEach (e :: es) X.env = (false, eval e X.env) :: starEach es X.env := by rfl) : AS X r (e :: es) (.d d :: ss) := fun F G t H A Q q =>
  oA (pa_cons cE cA hs) (ha F G t H A _ fun v G1 H1 e1 k1 => hr F G1 t H1 (A.ext e1) _ fun vs G2 H2 fp e2 sl nd nw => q (v :: vs) G2 H2 ([] ++ fp) (e1.trans e2) (.cons ⟨v, rfl, rfl, Dt.mono e2.g _ _ k1⟩ sl) nd fun a ha => ⟨e1.h.free (nw a ha).1, (nw a ha).2⟩)
theorem as_o (ha : PO X r e xs) (hr : AS X r es ss) (hs : starEach (e :: es) X.env = (false, eval e X.env) :: starEach es X.env := by rfl) : AS X r (e :: es) (.o xs :: ss) := fun F G t H A Q q =>
  oA (pa_cons cE cA hs) (ha F G t H A _ fun p ws G1 H1 e1 np gp hp da => hr F G1 t H1 (A.ext e1) _ fun vs G2 H2 fp e2 sl nd nw => by
    have hp' : H1 p ≠ none := by rw [hp]; exact fun z => by cases z
    refine q (.ref p :: vs) G2 H2 ([p] ++ fp) (e1.trans e2) (.cons ⟨_, rfl, p, ws, rfl, rfl, e2.h _ _ hp, DtAll.mono e2.g _ _ da⟩ sl) ?_ fun a ha => ?_
    · rw [List.singleton_append, List.nodup_cons]
      exact ⟨fun z => hp' (nw p z).1, nd⟩
    · rcases List.mem_append.mp ha with w | w
      · have ea : a = p := by simpa using w
        subst ea
        exact ⟨np, e2.nw a hp' gp⟩
      · exact ⟨e1.h.free (nw a w).1, (nw a w).2⟩)
theorem free_F {K : PySem.W.Frag} {F : Fr} {G : Hp} {t : St} {H : Hp} (A : At K F G r t H) {a : Addr} (h : H a = none) : F.H a = none := by
  cases z : F.H a with
  | none => rfl
  | some o => exact absurd h (A.ok.ne (by rw [z]; exact fun w => by cases w))
theorem not_in {K : PySem.W.Frag} {F : Fr} {G G' : Hp} {t : St} {H H' : Hp} (A : At K F G r t H) (e : Ext G H G' H') {a : Addr} (h : H a = none) {fp : List Addr} (sl : Slots K G' H' r t fp) : a ∉ fp := fun m => by
  obtain ⟨fp0, sl0, _, _⟩ := A.sl
  exact sl0.has a (At.asgO.Slots.same_fp sl sl0 e.h ▸ m) h
/-- x, y = e1, e2 -/
theorem hs_par2 (i j : Nat) (nd : X.N.Nodup) (ha : AS X r [a, b] [u1, u2]) (k : HS X ((r.set i u1).set j u2) rest N R) (hij : i ≠ j := by decide) (hr : r[i]? = some s1 := by rfl) (hr2 : r[j]? = some s2 := by rfl) (hN : X.N[i]? = some x := by rfl) (hN2 : X.N[j]? = some y := by rfl)
    (hc : X.calm = true := by rfl) (hx : X.env.scope.names.lookup x = some .local := by rfl) (hy : X.env.scope.names.lookup y = some .local := by rfl)
    (hw : swappedStores [.Tuple [.Name x px, .Name y py] kt pt] (.Tuple [a, b] k2 pt2) X.env = pure (some [x, y]) := by rfl) (hs : swapsWithSole [.Tuple [.Name x px, .Name y py] kt pt] (.Tuple [a, b] k2 pt2) pos.line X.env = pure false := by rfl) :
    HS X r (.Assign [.Tuple [.Name x px, .Name y py] kt pt] (.Tuple [a, b] k2 pt2) pos :: rest) N R :=
  hs_cons (M := fun r' => r' = (r.set i u1).set j u2) (fun F G t H nl A D n q => oS (ps_par hc nd hN hN2 hij hx hy cA hw hs) (ha F G t H A _ fun vs G' H' fp e sl nf nw => by
    match vs, sl with
    | [v1, v2], .cons (fp := f1) q1 (.cons (fp := f2) q2 .nil) =>
      rw [List.append_nil, List.nodup_append] at nf
      obtain ⟨n1, n2, n3⟩ := nf
      have A1 := (A.ext e).put (i := i) hr q1 n1 fun a ha => ⟨(nw a (List.mem_append_left _ ha)).2, free_F A (nw a (List.mem_append_left _ ha)).1, fun fp sl => not_in A e (nw a (List.mem_append_left _ ha)).1 sl⟩
      have A2 := A1.put (i := j) (s := s2) (by rw [List.getElem?_set_ne hij]; exact hr2) q2 n2 fun a ha => ⟨(nw a (List.mem_append_right _ (by simpa using ha))).2, free_F A (nw a (List.mem_append_right _ (by simpa using ha))).1, fun fp sl m => ?_⟩
      · exact ⟨v1, v2, rfl, n _ G' _ H' rfl A2⟩
      · obtain ⟨_, fp0, sl0, _, _⟩ := A.ext e
        obtain ⟨v, g1, g0, g2, h1, h2, h3, h4⟩ := sl0.split hr
        have sl1 := h4 G' H' u1 (some v1) f1 (Same.refl _) (fun _ _ _ w => w) q1
        rw [sl.uniq sl1] at m
        have hn := not_in A e (nw a (List.mem_append_right _ (by simpa using ha))).1 sl0
        rw [h2] at hn
        rcases List.mem_append.mp m with w | w
        · exact hn (List.mem_append_left _ w)
        · rcases List.mem_append.mp w with w | w
          · exact n3 a w a ha rfl
          · exact hn (List.mem_append_right _ (List.mem_append_right _ w)))) fun _ e => e ▸ k
/-- x, y, z = e1, e2, e3 -/
theorem hs_par3 (i j l : Nat) (nd : X.N.Nodup) (ha : AS X r [a, b, c] [u1, u2, u3]) (k : HS X (((r.set i u1).set j u2).set l u3) rest N R) (hij : i ≠ j := by decide) (hil : i ≠ l := by decide) (hjl : j ≠ l := by decide) (hr : r[i]? = some s1 := by rfl) (hr2 : r[j]? = some s2 := by rfl) (hr3 : r[l]? = some s3 := by rfl) (hN : X.N[i]? = some x := by rfl) (hN2 : X.N[j]? = some y := by rfl) (hN3 : X.N[l]? = some z := by rfl)
    (hc : X.calm = true := by rfl) (hx : X.env.scope.names.lookup x = some .local := by rfl) (hy : X.env.scope.names.lookup y = some .local := by rfl) (hz : X.env.scope.names.lookup z = some .local := by rfl)
    (hw : swappedStores [.Tuple [.Name x px, .Name y py, .Name z pz] kt pt] (.Tuple [a, b, c] k2 pt2) X.env = pure (some [x, y, z]) := by rfl) (hs : swapsWithSole [.Tuple [.Name x px, .Name y py, .Name z pz] kt pt] (.Tuple [a, b, c] k2 pt2) pos.line X.env = pure false := by rfl) :
    HS X r (.Assign [.Tuple [.Name x px, .Name y py, .Name z pz] kt pt] (.Tuple [a, b, c] k2 pt2) pos :: rest) N R :=
  hs_cons (M := fun r' => r' = ((r.set i u1).set j u2).set l u3) (fun F G t H nl A D n q => oS (ps_par3 hc nd hN hN2 hN3 hij hil hjl hx hy hz cA hw hs) (ha F G t H A _ fun vs G' H' fp e sl nf nw => by
    match vs, sl with
    | [v1, v2, v3], .cons (fp := f1) q1 (.cons (fp := f2) q2 (.cons (fp := f3) q3 .nil)) =>
      rw [List.append_nil, List.nodup_append] at nf
      obtain ⟨n1, nf2, n3⟩ := nf
      rw [List.nodup_append] at nf2
      obtain ⟨m1, m2, m3⟩ := nf2
      have w1 : ∀ a, a ∈ f1 → H a = none ∧ G' a = none := fun a ha => nw a (List.mem_append_left _ ha)
      have w2 : ∀ a, a ∈ f2 → H a = none ∧ G' a = none := fun a ha => nw a (List.mem_append_right _ (List.mem_append_left _ ha))
      have w3 : ∀ a, a ∈ f3 → H a = none ∧ G' a = none := fun a ha => nw a (List.mem_append_right _ (List.mem_append_right _ (by simpa using ha)))
      obtain ⟨_, fp0, sl0, _, _⟩ := A.ext e
      have out0 : ∀ a, H a = none → a ∉ fp0 := fun a ha => not_in A e ha sl0
      have A1 := (A.ext e).put (i := i) hr q1 n1 fun a ha => ⟨(w1 a ha).2, free_F A (w1 a ha).1, fun fp sl => not_in A e (w1 a ha).1 sl⟩
      obtain ⟨v, g1, g0, g2, h1, h2, h3, h4⟩ := sl0.split hr
      have sl1 := h4 G' H' u1 (some v1) f1 (Same.refl _) (fun _ _ _ w => w) q1
      have in1 : ∀ a, a ∈ g1 ++ (f1 ++ g2) → a ∈ fp0 ∨ a ∈ f1 := fun a m => by
        rw [h2]
        rcases List.mem_append.mp m with w | w
        · exact .inl (List.mem_append_left _ w)
        · rcases List.mem_append.mp w with w | w
          · exact .inr w
          · exact .inl (List.mem_append_right _ (List.mem_append_right _ w))
      have hr2' : (r.set i u1)[j]? = some s2 := by rw [List.getElem?_set_ne hij]; exact hr2
      have A2 := A1.put (i := j) hr2' q2 m1 fun a ha => ⟨(w2 a ha).2, free_F A (w2 a ha).1, fun fp sl m => by
        rw [sl.uniq sl1] at m
        rcases in1 a m with w | w
        · exact out0 a (w2 a ha).1 w
        · exact n3 a w a (List.mem_append_left _ ha) rfl⟩
      obtain ⟨v', g1', g0', g2', h1', h2', h3', h4'⟩ := sl1.split hr2'
      have sl2 := h4' G' H' u2 (some v2) f2 (Same.refl _) (fun _ _ _ w => w) q2
      have in2 : ∀ a, a ∈ g1' ++ (f2 ++ g2') → a ∈ g1 ++ (f1 ++ g2) ∨ a ∈ f2 := fun a m => by
        rw [h2']
        rcases List.mem_append.mp m with w | w
        · exact .inl (List.mem_append_left _ w)
        · rcases List.mem_append.mp w with w | w
          · exact .inr w
          · exact .inl (List.mem_append_right _ (List.mem_append_right _ w))
      have A3 := A2.put (i := l) (s := s3) (by rw [List.getElem?_set_ne hjl, List.getElem?_set_ne hil]; exact hr3) q3 (by simpa using m2) fun a ha => ⟨(w3 a ha).2, free_F A (w3 a ha).1, fun fp sl m => by
        rw [sl.uniq sl2] at m
        rcases in2 a m with w | w
        · rcases in1 a w with w | w
          · exact out0 a (w3 a ha).1 w
          · exact n3 a w a (List.mem_append_right _ (by simpa using ha)) rfl
        · exact m3 a w a (by simpa using ha) rfl⟩
      exact ⟨v1, v2, v3, rfl, n _ G' _ H' rfl A3⟩)) fun _ e => e ▸ k
/-- x = y, y our list: it moves -/
theorem hs_mv (i j : Nat) (nd : X.N.Nodup) (k : HS X ((r.set j .un).set i (.o xs)) rest N R) (hij : i ≠ j := by decide) (hr : r[i]? = some s1 := by rfl) (hr2 : r[j]? = some (.o xs) := by rfl) (hN : X.N[i]? = some x := by rfl) (hN2 : X.N[j]? = some y := by rfl) (hx : Loc X.env.scope x := by first | exact Or.inl rfl | exact Or.inr rfl)
    (hv : Vis X.env.scope y := by first | exact Or.inl rfl | exact Or.inr (Or.inl rfl) | exact Or.inr (Or.inr rfl)) (hd : (y == ("__debug__" : Str)) = false := by decide) (hcd : (y == ("__classdict__" : Str)) = false := by decide)
    (hs : swapsWith (.Name y py) (some (.Name x px)) pos.line X.env = pure false := by rfl) (hf : X.fn x = true ∨ X.env.scope.names.lookup x = some .local := by first | exact .inl rfl | exact .inr rfl) :
    HS X r (.Assign [.Name x px] (.Name y py) pos :: rest) N R :=
  hs_cons (M := fun r' => r' = (r.set j .un).set i (.o xs)) (fun F G t H nl A D n q => by
    obtain ⟨o, fp, s, ndf, fr⟩ := A
    obtain ⟨v, f1, f0, f2, h1, h2, h3, h4⟩ := s.split hr2
    obtain ⟨v, rfl, p, vs, rfl, rfl, k1, k2⟩ := h3
    have s' := h4 G H .un (some (.ref p)) [] (Same.refl G) (fun _ _ _ w => w) rfl
    have hset : t.set j (some (.ref p)) = t := by
      obtain ⟨hlt, he⟩ := List.getElem?_eq_some_iff.mp h1
      rw [← he]; exact List.set_getElem_self hlt
    rw [hset] at s'
    subst h2
    have ep : (f1 ++ ([p] ++ f2)).Perm (p :: (f1 ++ ([] ++ f2))) := by simpa using List.perm_middle
    have nd2 := ep.nodup_iff.mp ndf
    rw [List.nodup_cons] at nd2
    have A1 : At X.K F G (r.set j .un) t H := ⟨o, _, s', nd2.2, fun a ha => fr a (ep.mem_iff.mpr (List.mem_cons_of_mem _ ha))⟩
    have mp := fr p (by simp)
    have A2 := A1.put (i := i) (s := s1) (v' := some (.ref p)) (s' := .o xs) (fp' := [p]) (by rw [List.getElem?_set_ne (Ne.symm hij)]; exact hr) ⟨_, rfl, p, vs, rfl, rfl, k1, k2⟩ (by simp) fun a ha => by
      have ea : a = p := by simpa using ha
      subst ea
      refine ⟨mp.1, mp.2.elim id (fun z => by rw [nl] at z; cases z), fun fp sl m => ?_⟩
      rw [sl.uniq s'] at m
      exact nd2.1 m
    exact oS (ps_set nd hN hx (pe_var hN2 hv hd hcd) hs hf) ⟨_, h1, n _ G _ H rfl A2⟩) fun _ e => e ▸ k
/-- x += e, ints -/
theorem hs_aug {n m : Int} (i : Nat) (nd : X.N.Nodup) (he : PB X r e (.int m)) (k : HS X (r.set i (.d (.int (n + m)))) rest N R) (hr : r[i]? = some (.d (.int n)) := by rfl) (hN : X.N[i]? = some x := by rfl) (hx : Loc X.env.scope x := by first | exact Or.inl rfl | exact Or.inr rfl)
    (hf : X.fn x = true ∨ X.env.scope.names.lookup x = some .local := by first | exact .inl rfl | exact .inr rfl) : HS X r (.AugAssign (.Name x px) .Add e pos :: rest) N R :=
  hs_cons (M := fun r' => r' = r.set i (.d (.int (n + m)))) (fun F G t H nl A D nx q => by
    obtain ⟨v, h1, h2⟩ := at_d A hr
    cases h2
    exact oS (ps_aug nd hN hx cE ip_add hf) ⟨_, h1, he F G t H A _ fun w G' H' e kk => by cases kk; exact ⟨n, m, rfl, rfl, nx _ G' _ H' rfl ((A.ext e).asg hr (.int _))⟩⟩) fun _ e => e ▸ k
theorem hs_augm {n m : Int} (i : Nat) (nd : X.N.Nodup) (he : PB X r e (.int m)) (k : HS X (r.set i (.d (.int (n - m)))) rest N R) (hr : r[i]? = some (.d (.int n)) := by rfl) (hN : X.N[i]? = some x := by rfl) (hx : Loc X.env.scope x := by first | exact Or.inl rfl | exact Or.inr rfl)
    (hf : X.fn x = true ∨ X.env.scope.names.lookup x = some .local := by first | exact .inl rfl | exact .inr rfl) : HS X r (.AugAssign (.Name x px) .Sub e pos :: rest) N R :=
  hs_cons (M := fun r' => r' = r.set i (.d (.int (n - m)))) (fun F G t H nl A D nx q => by
    obtain ⟨v, h1, h2⟩ := at_d A hr
    cases h2
    exact oS (ps_aug nd hN hx cE ip_sub hf) ⟨_, h1, he F G t H A _ fun w G' H' e kk => by cases kk; exact ⟨n, m, rfl, rfl, nx _ G' _ H' rfl ((A.ext e).asg hr (.int _))⟩⟩) fun _ e => e ▸ k
/-- o[i] read off a list -/
def rGetL (K : PySem.W.Frag) : V → V → Hp → VK → Prop := fun o i H Q => ∃ p xs k v, o = .ref p ∧ i = .int k ∧ SqL K H p xs ∧ 0 ≤ k ∧ atI xs k = some v ∧ Q v H
theorem get_list : PGet X (rGetL X.K) := by
  intro pins s σ H o i ov iv Q I ro ri h
  obtain ⟨p, xs, k, v, rfl, rfl, hs, h0, hv, q⟩ := h
  cases ro
  obtain ⟨t, rfl⟩ := ri
  obtain ⟨its, rl, pl, hz⟩ := I.list hs
  obtain ⟨j, h1, h2, h3, h4, h5⟩ := atI_get hv
  obtain ⟨w, ew, rw'⟩ := rl.get h2
  have hl := rl.length
  have hn := line63
  have hj : k.toNat = j := by
    rw [seqIndex_of h0 h5] at h1
    exact Option.some.inj h1
  exact wpAny_getItem_list pl.isList h0 (by omega) (by rw [hj]; simpa using ew) ⟨v, H, I, rw', q⟩
/-- xs[z] += e, our list, ints -/
theorem hs_augI {n m z : Int} {b : Expr} (i : Nat) {jx : Nat} (hb : PB X r b (.int z)) (he : PB X r e (.int m)) (h0 : 0 ≤ z) (hx : ixN xs.length z = some jx) (hv : atI xs z = some (.int n)) (k : HS X (r.set i (.o (xs.set jx (.int (n + m))))) rest N R) (hr : r[i]? = some (.o xs) := by rfl) (hN : X.N[i]? = some x := by rfl)
    (hvs : Vis X.env.scope x := by first | exact Or.inl rfl | exact Or.inr (Or.inl rfl) | exact Or.inr (Or.inr rfl)) (hd : (x == ("__debug__" : Str)) = false := by decide) (hcd : (x == ("__classdict__" : Str)) = false := by decide)
    (ha : ∀ ov iv new, augStore b ov iv new = (do holding [new, ov, iv] (setItem ov iv new); release [new, ov, iv] []; pure .next) := by intros; rfl) :
    HS X r (.AugAssign (.Subscript (.Name x px) b p) .Add e pos :: rest) N R :=
  hs_cons (M := fun r' => r' = r.set i (.o (xs.set jx (.int (n + m))))) (fun F G t H nl A D nx q => by
    obtain ⟨l, vs, g1, g2, g3, g4, g5⟩ := A.upd hr
    refine oS (ps_augS (pe_var hN hvs hd hcd) cE get_list cE ip_add set_list ha) ⟨_, g1, hb F G t H A _ fun v G1 H1 e1 k1 => ?_⟩
    cases k1
    obtain ⟨w, hw, kw⟩ := dt_at g3 hv
    cases kw
    refine ⟨l, vs, z, _, rfl, rfl, SqL.of (e1.h _ _ g2), h0, hw, he F G1 t H1 (A.ext e1) _ fun v2 G2 H2 e2 k2 => ?_⟩
    cases k2
    have ee := e1.trans e2
    exact ⟨n, m, rfl, rfl, l, vs, z, jx, rfl, rfl, ee.h _ _ g2, by rw [g3.len]; exact hx, nx _ G2 t _ rfl (g5 G2 H2 _ _ ee (DtAll.set (.int _) jx (DtAll.mono ee.g _ _ g3)))⟩) fun _ e => e ▸ k
/-- xs.extend(ys) -/
theorem hs_ext {apos : Pos} (i : Nat) (he : PP X r e (.lst ys)) (hz : xs.length + ys.length ≤ sizeLine) (k : HS X (r.set i (.o (xs ++ ys))) rest N R) (hr : r[i]? = some (.o xs) := by rfl) (hN : X.N[i]? = some x := by rfl) (hv : Vis X.env.scope x := by first | exact Or.inl rfl | exact Or.inr (Or.inl rfl) | exact Or.inr (Or.inr rfl)) (hd : (x == ("__debug__" : Str)) = false := by decide)
    (hcd : (x == ("__classdict__" : Str)) = false := by decide) (hsw : swapsWith (.Call (.Attribute (.Name x px) "extend" apos) [e] [] p) none pos.line X.env = pure false := by rfl)
    (hpe : ∀ {to : TE} {t : TA}, PE X (.Name x px) to → PA X [e] t → PE X (.Call (.Attribute (.Name x px) "extend" apos) [e] [] p) (tBM X.K "list" rExtend to t) := by exact fun ho ha => pe_bm PySem.F.plainAttrs_list PySem.F.slot_list_extend PySem.F.type_list_extend mt_extend ho ha)
    (hs : starEach [e] X.env = (false, eval e X.env) :: starEach [] X.env := by rfl) : HS X r (.Expr (.Call (.Attribute (.Name x px) "extend" apos) [e] [] p) pos :: rest) N R :=
  hs_cons (M := fun r' => r' = r.set i (.o (xs ++ ys))) (fun F G t H nl A D n q => by
    obtain ⟨l, vs, h1, h2, h3, h4, h5⟩ := A.upd hr
    refine oS (ps_expr (hpe (pe_var hN hv hd hcd) cA) hsw) ⟨_, h1, .inl ⟨rfl, vs, SqL.of h2⟩, aq_cons he aq_nil hs F G t H A _ fun ws G' H' ee k => ?_⟩
    cases k with
    | cons k1 k2 =>
      cases k2
      cases k1 with
      | @lst b zs _ a1 a2 =>
        exact ⟨l, b, vs, zs, rfl, rfl, ee.h _ _ h2, ee.gh _ _ a1, by rw [h3.len, a2.len]; exact hz, n _ G' t _ rfl (h5 G' H' _ _ ee ((DtAll.mono ee.g _ _ h3).app a2))⟩) fun _ e => e ▸ k
/-- xs.pop() thrown away -/
theorem hs_pop {apos : Pos} (i : Nat) (hne : xs ≠ []) (k : HS X (r.set i (.o xs.dropLast)) rest N R) (hr : r[i]? = some (.o xs) := by rfl) (hN : X.N[i]? = some x := by rfl) (hv : Vis X.env.scope x := by first | exact Or.inl rfl | exact Or.inr (Or.inl rfl) | exact Or.inr (Or.inr rfl)) (hd : (x == ("__debug__" : Str)) = false := by decide)
    (hcd : (x == ("__classdict__" : Str)) = false := by decide) (hsw : swapsWith (.Call (.Attribute (.Name x px) "pop" apos) [] [] p) none pos.line X.env = pure false := by rfl)
    (hpe : ∀ {to : TE}, PE X (.Name x px) to → PE X (.Call (.Attribute (.Name x px) "pop" apos) [] [] p) (tBM0 X.K "list" rPop to) := by exact fun ho => pe_bm0 PySem.F.plainAttrs_list PySem.F.slot_list_pop PySem.F.type_list_pop mt_pop ho) :
    HS X r (.Expr (.Call (.Attribute (.Name x px) "pop" apos) [] [] p) pos :: rest) N R :=
  hs_cons (M := fun r' => r' = r.set i (.o xs.dropLast)) (fun F G t H nl A D n q => by
    obtain ⟨l, vs, h1, h2, h3, h4, h5⟩ := A.upd hr
    have hl := h3.len
    have hpos : 0 < xs.length := List.length_pos_iff.mpr hne
    refine oS (ps_expr (hpe (pe_var hN hv hd hcd)) hsw) ⟨_, h1, .inl ⟨rfl, vs, SqL.of h2⟩, l, vs, vs[vs.length - 1]'(by omega), rfl, rfl, h2, List.getElem?_eq_getElem _, n _ G t _ rfl (h5 G H _ _ (Ext.refl A.gh) h3.dropLast)⟩) fun _ e => e ▸ k
/-- xs.count(e), ints -/
theorem pb_count {ns : List Int} {m : Int} {apos : Pos} (ho : PB X r a (D.ints ns)) (he : PB X r e (.int m))
    (hpe : ∀ {to : TE} {t : TA}, PE X a to → PA X [e] t → PE X (.Call (.Attribute a "count" apos) [e] [] p) (tBM X.K "list" (rCntI X.K) to t) := by exact fun ho ha => pe_bm PySem.F.plainAttrs_list PySem.F.slot_list_count PySem.F.type_list_count mt_lcount ho ha)
    (hs : starEach [e] X.env = (false, eval e X.env) :: starEach [] X.env := by rfl) : PB X r (.Call (.Attribute a "count" apos) [e] [] p) (.int (ns.count m : Nat)) := fun F G t H A Q q =>
  oE (hpe cE cA) (ho F G t H A _ fun v G1 H1 e1 k1 => by
    cases k1 with
    | @lst l vs _ h1 h2 =>
      rw [h2.ints_inv] at h1
      refine ⟨.inl ⟨rfl, _, SqL.of h1⟩, ab1 he hs F G1 t H1 (A.ext e1) _ fun ws G2 H2 e2 k2 => ?_⟩
      cases k2 with
      | cons k2 k3 =>
        cases k3; cases k2
        exact ⟨l, ns, m, rfl, rfl, SqL.of (e2.h _ _ h1), q _ G2 H2 (e1.trans e2) (.int _)⟩)
/-- xs[::-1] -/
theorem po_rev {k : Nat} {p1 p2 p3 : Pos} (ha : PP X r a (.lst xs)) : DL.PO X r (.Subscript a (.Slice none none (some (.UnaryOp .USub (.Constant (.int 1) k p1) p2)) p3) pos) xs.reverse := fun F G t H A Q q =>
  oE (pe_revL cE) (ha F G t H A _ fun v G1 H1 e1 k1 => by
    cases k1 with
    | lst h1 h2 => exact ⟨_, _, rfl, SqL.of (e1.gh _ _ h1), fun p hp => q p _ G1 _ (e1.trans (Ext.newO e1.gh hp)) (e1.h.free hp) (e1.gh.free hp) upd_same h2.rev⟩)
theorem po_revB {k : Nat} {p1 p2 p3 : Pos} (ha : PB X r a (.lst xs)) (sc : ∀ d, d ∈ xs → Sc d) : DL.PO X r (.Subscript a (.Slice none none (some (.UnaryOp .USub (.Constant (.int 1) k p1) p2)) p3) pos) xs.reverse := fun F G t H A Q q =>
  oE (pe_revL cE) (ha F G t H A _ fun v G1 H1 e1 k1 => by
    cases k1 with
    | lst h1 h2 => exact ⟨_, _, rfl, SqL.of h1, fun p hp => q p _ G1 _ (e1.trans (Ext.newO e1.gh hp)) (e1.h.free hp) (e1.gh.free hp) upd_same (h2.scAny sc).rev⟩)
theorem po_cutB {lo hi : Option Expr} {zl zh : Option Int} {p2 : Pos} (ha : PB X r a (.lst xs)) (sc : ∀ d, d ∈ xs → Sc d) (hl : EQ X r lo zl) (hh : EQ X r hi zh) : DL.PO X r (.Subscript a (.Slice lo hi none p2) pos) (cutD xs zl zh) := fun F G t H A Q q =>
  oE (pe_slice sl_list cE cO cO) (ha F G t H A _ fun v G1 H1 e1 k1 => eq_run hl (A.ext e1) fun G2 H2 e2 => eq_run hh ((A.ext e1).ext e2) fun G3 H3 e3 => by
    cases k1 with
    | lst h1 h2 =>
      have e := (e1.trans e2).trans e3
      exact ⟨_, _, rfl, SqL.of (e3.h _ _ (e2.h _ _ h1)), fun p hp => q p _ G3 _ (e.trans (Ext.newO e3.gh hp)) (e.h.free hp) (e3.gh.free hp) upd_same (dt_cut (h2.scAny sc) zl zh)⟩)
/-- e is True, e is not False .. -/
theorem cr_isB {m n : Bool} : CR X .Is (.bl m) (.bl n) (decide (m = n)) := ⟨_, op_isBl, fun v1 v2 H Q k1 k2 q => by cases k1; cases k2; exact ⟨m, n, rfl, rfl, q⟩⟩
theorem cr_notB {m n : Bool} : CR X .IsNot (.bl m) (.bl n) (!decide (m = n)) := ⟨_, op_notBl, fun v1 v2 H Q k1 k2 q => by cases k1; cases k2; exact ⟨m, n, rfl, rfl, q⟩⟩
theorem pb_divW {i j : Int} (ha : PB X r a (.int i)) (hb : PB X r b (.int j)) (hc : CDivW i j) : PB X r (.BinOp a .FloorDiv b pos) (.int (i / j)) := pb_iic (pe_op op_fdivW cE cE) ha hb hc
end
end DL
namespace DL
open PySem L2
/-- a module's name that holds an int -/
structure Gc (mg : Str → Option Value) (x : Str) (n : Int) : Prop where
  ex : ∃ t, mg x = some (.int n t)
theorem pp_gc {X : Cx} {r : List Slot} {x : Str} {n : Int} {pos : Pos} (h : Gc X.mg x n) (hg : Gl X x := by rfl) (hd : (x == ("__debug__" : Str)) = false := by decide) : PP X r (.Name x pos) (.int n) := by
  obtain ⟨t, e⟩ := h
  exact pp_g e ⟨t, rfl⟩ hg hd
theorem pb_gc {X : Cx} {r : List Slot} {x : Str} {n : Int} {pos : Pos} (h : Gc X.mg x n) (hg : Gl X x := by rfl) (hd : (x == ("__debug__" : Str)) = false := by decide) : PB X r (.Name x pos) (.int n) := pb (pp_gc h hg hd)
end DL
namespace DL
open PySem L2
/-- written ints -/
inductive IntEs : List Expr → List Int → Prop
  | nil : IntEs [] []
  | cons {n : Int} {k : Nat} {p : Pos} {es : List Expr} {ns : List Int} : IntEs es ns → IntEs (.Constant (.int n) k p :: es) (n :: ns)
theorem aq_ints {X : Cx} {r : List Slot} {es : List Expr} {ns : List Int} (h : IntEs es ns) : AQ X r es (ns.map .int) := by
  induction h with
  | nil => exact aq_nil
  | cons _ ih => exact aq_cons pp_n ih
end DL

/-! Part 11: comprehensions over lists of lists, tuples of ints walked, small facts. -/
namespace DL
open PySem L2
theorem ix_of {n : Nat} {z : Int} (h0 : 0 ≤ z) (h : z < (n : Int)) : ixN n z = some z.toNat := by
  unfold ixN
  rw [if_pos h0, if_pos h]
theorem flat_rep {α : Type} (x : α) : ∀ n : Nat, (List.replicate n [x]).flatten = List.replicate n x
  | 0 => rfl
  | n + 1 => by rw [List.replicate_succ, List.flatten_cons, flat_rep x n]; rfl
theorem rep_map {α : Type} (x : α) (n : Nat) : List.replicate n x = (List.range n).map fun _ => x := by
  rw [List.map_const', List.length_range]
theorem set_ints (l : List Int) (i : Nat) (z : Int) : (l.map D.int).set i (.int z) = (l.set i z).map D.int := by rw [List.map_set]
theorem lists_get {α : Type} {f : α → D} {l : List α} {k : Nat} {d : D} (h : (l.map f)[k]? = some d) : ∃ z, l[k]? = some z ∧ d = f z := by
  rw [List.getElem?_map] at h
  cases e : l[k]? with
  | none => rw [e] at h; cases h
  | some z => rw [e] at h; exact ⟨z, rfl, (Option.some.inj h).symm⟩
/-- what is made, item by item -/
theorem madeD_by {α : Type} [Inhabited α] (g : α → D) (l : List α) : madeD (fun _ => true) (fun k => g (l.getD k default)) l.length = l.map g := by
  rw [madeD_all]
  refine List.ext_getElem? fun i => ?_
  by_cases h : i < l.length
  · rw [List.getElem?_map, List.getElem?_range h, List.getElem?_map, List.getElem?_eq_getElem h]
    simp [List.getD_eq_getElem?_getD, h]
  · rw [List.getElem?_eq_none (by simp; omega), List.getElem?_eq_none (by simp; omega)]
theorem getD_at {α : Type} [Inhabited α] {l : List α} {k : Nat} {z : α} (h : l[k]? = some z) : l.getD k default = z := by simp [List.getD_eq_getElem?_getD, h]
section
variable {X : Cx} {r r1 r2 : List Slot} {e a b c it elt : Expr} {es ts ifs : List Expr} {pos p px py : Pos} {d d1 d2 : D} {ds xs ys : List D} {ns : List Int} {n : Int} {x y : Str} {st : Stmt} {rest body : List Stmt} {N M : List Slot → Prop} {R : Slot → List Slot → Prop} {α : Type} [Inhabited α] {fa : α → D} {as : List α}
/-- [elt for x in xs], the items data of any kind -/
theorem po_A {scope : Scope} (j : Nat) {s : Slot} (nd : X.N.Nodup) (g : α → D) (ha : PP X r a (.lst (as.map fa))) (hn : as.length ≤ sizeLine) (he : ∀ z, z ∈ as → ∀ s H C cl fp, PP (Blk X scope s H C cl fp) (r.set j (.d (fa z))) elt (g z))
    (ok : BlkOk X.N X.env.scope scope [(x, j)] := by exact blkOk_by (by kernel_rfl)) (hb : BlkN X scope x px j := by first | exact fun _ _ _ _ _ => pg_name (by assumption) rfl (Or.inl rfl) | exact fun _ _ _ _ _ => pg_name (by assumption) rfl (Or.inr rfl)) (hr : r[j]? = some s := by rfl) (hc : X.calm = true := by rfl) (hfs : ∀ x, foldedSetIterable a X.env x = pure x := by intro _; rfl) :
    PO X r (.ListComp elt [⟨.Name x px, a, [], 0⟩] scope pos) (as.map g) :=
  po_is (po_lcL (cpos := pos) j nd (fun _ => true) (fun k => g (as.getD k default)) ha (by rw [List.length_map]; exact hn) (fun _ _ _ _ _ _ _ _ => fq_nil) (fun k d hd _ => by
    obtain ⟨z, hz, rfl⟩ := lists_get hd
    rw [getD_at hz]
    exact he z (List.mem_of_getElem? hz)) ok hb hr hc hfs) (by rw [List.length_map]; exact madeD_by g as)
theorem hs_A {scope : Scope} {spos : Pos} (i : Nat) {s1 : Slot} (sl : Slot) (j : Nat) {s : Slot} (nd : X.N.Nodup) (g : α → D) (ha : PP X r a (.lst (as.map fa))) (hn : as.length ≤ sizeLine) (he : ∀ z, z ∈ as → ∀ s H C cl fp, PP (Blk X scope s H C cl fp) (r.set j (.d (fa z))) elt (g z))
    (hsl : sl = .o (as.map g) ∨ sl = .d (.lst (as.map g))) (k : HS X (r.set i sl) rest N R)
    (ok : BlkOk X.N X.env.scope scope [(x, j)] := by exact blkOk_by (by kernel_rfl)) (hb : BlkN X scope x px j := by first | exact fun _ _ _ _ _ => pg_name (by assumption) rfl (Or.inl rfl) | exact fun _ _ _ _ _ => pg_name (by assumption) rfl (Or.inr rfl)) (hr : r[j]? = some s := by rfl) (hc : X.calm = true := by rfl) (hfs : ∀ x, foldedSetIterable a X.env x = pure x := by intro _; rfl)
    (hr1 : r[i]? = some s1 := by rfl) (hy : X.N[i]? = some y := by rfl) (hyl : X.env.scope.names.lookup y = some .local := by rfl) (hsw : swapsWith (.ListComp elt [⟨.Name x px, a, [], 0⟩] scope pos) (some (.Name y py)) spos.line X.env = pure true := by exact sw_true rfl rfl rfl (by kernel_rfl)) :
    HS X r (.Assign [.Name y py] (.ListComp elt [⟨.Name x px, a, [], 0⟩] scope pos) spos :: rest) N R :=
  hs_lcL (cpos := pos) i sl j nd (fun _ => true) (fun k => g (as.getD k default)) ha (by rw [List.length_map]; exact hn) (fun _ _ _ _ _ _ _ _ => fq_nil) (fun k d hd _ => by
    obtain ⟨z, hz, rfl⟩ := lists_get hd
    rw [getD_at hz]
    exact he z (List.mem_of_getElem? hz)) ok hb hr hc hfs (by rw [List.length_map, madeD_by g as]; exact hsl) k hr1 hy hyl hsw
/-- for x in (a, b, ..), for x in xs, the items data of any kind -/
theorem s1_forTA {fpos : Pos} (i : Nat) {s : Nat → Slot} (nd : X.N.Nodup) (I : Nat → List Slot) (ha : PP X r it (.tup ds)) (hds : ds = as.map fa) (h0 : Le r (I 0)) (hb : ∀ (k : Nat) (z : α), as[k]? = some z → HS X ((I k).set i (.d (fa z))) body (fun r' => Le r' (I (k + 1))) R) (m : M (I as.length))
    (hr : ∀ k, (I k)[i]? = some (s k) := by intro _; rfl) (hN : X.N[i]? = some x := by rfl) (hx : Loc X.env.scope x := by first | exact Or.inl rfl | exact Or.inr rfl) (hf : X.fn x = true ∨ X.env.scope.names.lookup x = some .local := by first | exact .inl rfl | exact .inr rfl)
    (hp : PassesOwn (model X.prog X.w) X.A X.env X.xe := by exact PassesOwn.never) (hc : X.calm = true := by rfl) (hfs : ∀ x, foldedSetIterable it X.env x = pure x := by intro _; rfl) : S1 X r (.For (.Name x px) it body [] fpos) M R := by
  subst hds
  exact s1_forT I (fun k => (I k).set i (.d (fa (as.getD k default)))) ha h0 (fun k d hd => by
    obtain ⟨z, hz, rfl⟩ := lists_get hd
    rw [getD_at hz]
    exact gq_n i nd (hr k) hN hx hf) (fun k d hd => by
    obtain ⟨z, hz, rfl⟩ := lists_get hd
    rw [getD_at hz]
    exact hb k z hz) (by rw [List.length_map]; exact m) hp hc hfs
theorem s1_forA {fpos : Pos} (i : Nat) {s : Nat → Slot} (nd : X.N.Nodup) (I : Nat → List Slot) (ha : PP X r it (.lst ds)) (hds : ds = as.map fa) (h0 : Le r (I 0)) (hb : ∀ (k : Nat) (z : α), as[k]? = some z → HS X ((I k).set i (.d (fa z))) body (fun r' => Le r' (I (k + 1))) R) (m : M (I as.length))
    (hr : ∀ k, (I k)[i]? = some (s k) := by intro _; rfl) (hN : X.N[i]? = some x := by rfl) (hx : Loc X.env.scope x := by first | exact Or.inl rfl | exact Or.inr rfl) (hf : X.fn x = true ∨ X.env.scope.names.lookup x = some .local := by first | exact .inl rfl | exact .inr rfl)
    (hp : PassesOwn (model X.prog X.w) X.A X.env X.xe := by exact PassesOwn.never) (hc : X.calm = true := by rfl) (hfs : ∀ x, foldedSetIterable it X.env x = pure x := by intro _; rfl) : S1 X r (.For (.Name x px) it body [] fpos) M R := by
  subst hds
  exact s1_forL I (fun k => (I k).set i (.d (fa (as.getD k default)))) ha h0 (fun k d hd => by
    obtain ⟨z, hz, rfl⟩ := lists_get hd
    rw [getD_at hz]
    exact gq_n i nd (hr k) hN hx hf) (fun k d hd => by
    obtain ⟨z, hz, rfl⟩ := lists_get hd
    rw [getD_at hz]
    exact hb k z hz) (by rw [List.length_map]; exact m) hp hc hfs
/-- an if that leaves the state weaker -/
theorem hs_ifL {k : Bool} {b1 b2 : List Stmt} (r1 : List Slot) (hc : TQ X r c k) (h1 : k = true → HS X r b1 (fun r' => Le r' r1) R) (h2 : k = false → HS X r b2 (fun r' => Le r' r1) R) (h : HS X r1 rest N R) : HS X r (.If c b1 b2 pos :: rest) N R :=
  hs_cons (M := fun r' => Le r' r1) (s1_if hc h1 h2) fun _ l => hs_le l h
theorem hs_forL {r1 : List Slot} (h1 : S1 X r st (fun r' => Le r' r1) R) (h : HS X r1 rest N R) : HS X r (st :: rest) N R := hs_cons (M := fun r' => Le r' r1) h1 fun _ l => hs_le l h
end
end DL

/-! Part 12: the ends. -/
namespace DL
open PySem PySem.Spec PyProof.Rows L2
section
variable {P : Program} {w : World} {K : PySem.W.Frag} {mg : Str → Option Value} {base : Heap}
/-- the law's own def, as it stands -/
theorem ok_def {x : Str} {st : Stmt} {ps N : List Str} {k : Nat} {C : Ct} {f : Addr} {fd : FuncData} (Fn : Fun K x x st f fd) (S : FnScope N ps (defScope st)) (hl : ∀ ds s, C ds s → ds.length = ps.length)
    (hb : ∀ ds s, C ds s → ∀ f cdv A outer s0 H E, Room k (A.deeper (envOfC x (defScope st) s0.heap.objs.size f cdv)) →
      HS (cx0 P w K mg base N x (defScope st) f cdv A outer s0 H E) (entry N ds) (defBody st) (fun _ => s = .d .non) (fun s' _ => s' = s)) : FnOk P w K mg base CX0 (k + 1) f fd ps (spC K C) := fn_ok Fn S hl fun ds s c => hb ds s c f
theorem df_mk {h : Heap} {x : Str} {st : Stmt} {ps : List Str} {f : Addr} {oc : Value} {od an : Option Addr} {osl : Array (Option Value)} {kV doc pm cdv ct : Value} (X : K.In h) (G : h.Ns mainGlobals mg) (a : PySem.W.nsIn K mainGlobals x = some (some (.ref f)))
    (l : K.lookup f = some ⟨oc, od, .func (PySem.W.fnOf x x (defArgs st) (defBody st) (defScope st) .none kV doc pm an cdv ct), osl⟩) (c : PySem.W.codeIn K cdv x = true) (k : PySem.W.keepIn K (.ref f) = true)
    (hb : ∀ (kV doc pm : Value) (an : Option Addr) (cdv ct : Value) (us : List Value), us.length = ps.length → bindArgs (PySem.W.fnOf x x (defArgs st) (defBody st) (defScope st) .none kV doc pm an cdv ct) ⟨us, []⟩ = pure (ps.zip us)) : Df K mg x st ps :=
  ⟨f, _, fun_mk l c k, PySem.W.mg_of X G a, (fun_mk (st := st) l c k).binds hb⟩
/-- one default, an int -/
theorem dfD_mk {h : Heap} {x p1 p2 : Str} {st : Stmt} {f T : Addr} {oc : Value} {od an : Option Addr} {osl : Array (Option Value)} {kV doc pm cdv ct : Value} {o : Obj} {d : Int} {t : Tok} {m : Nat} (X : K.In h) (G : h.Ns mainGlobals mg) (a : PySem.W.nsIn K mainGlobals x = some (some (.ref f)))
    (l : K.lookup f = some ⟨oc, od, .func (PySem.W.fnOf x x (defArgs st) (defBody st) (defScope st) (.ref T) kV doc pm an cdv ct), osl⟩) (c : PySem.W.codeIn K cdv x = true) (k : PySem.W.keepIn K (.ref f) = true) (lT : K.lookup T = some o) (oT : o.data = .seq [Value.int d t].toArray m)
    (h1 : ∀ (T : Addr) (kV doc pm : Value) (an : Option Addr) (cdv ct : Value) (us its : List Value), us.length = 1 → its.length = 1 →
      ∃ k, bindArgs (PySem.W.fnOf x x (defArgs st) (defBody st) (defScope st) (.ref T) kV doc pm an cdv ct) ⟨us, []⟩ = seqItems? (.ref T) >>= k ∧ k (some its.toArray) = pure ([p1, p2].zip (us ++ its.drop 0)))
    (h2 : ∀ (T : Addr) (kV doc pm : Value) (an : Option Addr) (cdv ct : Value) (us its : List Value), us.length = 2 → its.length = 1 →
      ∃ k, bindArgs (PySem.W.fnOf x x (defArgs st) (defBody st) (defScope st) (.ref T) kV doc pm an cdv ct) ⟨us, []⟩ = seqItems? (.ref T) >>= k ∧ k (some its.toArray) = pure ([p1, p2].zip (us ++ its.drop 1))) : DfD K mg x st [p1, p2] [.int d] [.int d] := by
  have F : FunD K x x (defArgs st) (defBody st) (defScope st) [.int d] [] f _ := ⟨⟨oc, od, .ref T, kV, doc, pm, an, cdv, ct, osl, rfl, l, c, .inr ⟨by simp, T, o, [Value.int d t], m, rfl, lT, oT, .cons ⟨t, rfl⟩ .nil⟩, .inl rfl⟩, k⟩
  obtain ⟨d1, v1, b1⟩ := F.binds1 (ps := [p1, p2]) 1 0 (by simp) rfl h1
  obtain ⟨d2, v2, b2⟩ := F.binds1 (ps := [p1, p2]) 2 1 (by simp) rfl h2
  cases v2
  exact ⟨f, _, d1, F, PySem.W.mg_of X G a, b1, v1, fun G => .cons (.int d) .nil, b2⟩
theorem gc_mk {h : Heap} {x : Str} {n : Int} {t : Tok} (X : K.In h) (G : h.Ns mainGlobals mg) (a : PySem.W.nsIn K mainGlobals x = some (some (.int n t))) : Gc mg x n := ⟨t, PySem.W.mg_of X G a⟩
/-- the script is handed in, True is due -/
theorem law_sp {C : Ct} {H : Hp} {a : Addr} {ns : List Int} {E : XK} (hS : SqL K H a (ns.map V.int)) (hc : C [.scr ns] (.d (.bl true))) : spC K C [.ref a] H (fun v _ => v = .bl true) E :=
  ⟨H, [.scr ns], .d (.bl true), Same.refl H, .cons (.scr hS) .nil, hc, fun v H' r => by
    obtain ⟨G', _, k⟩ := r.ext
    cases k; rfl⟩
end
end DL

/-! Part 13: objects as data: made, asked for fields, called by methods. -/
namespace DL
open PySem PySem.Spec PyProof.Rows L2
theorem look_zip {K : PySem.W.Frag} {G : Hp} {f : Str} {d : D} : ∀ (ns : List Str) (vs : List V) (ds : List D), vs.length = ns.length → DtAll K G vs ds → (ns.zip ds).lookup f = some d → ∃ v, (ns.zip vs).lookup f = some v ∧ Dt K G v d := by
  intro ns
  induction ns with
  | nil => intro vs ds _ _ e; simp at e
  | cons n ns ih =>
    intro vs ds hl h e
    cases h with
    | nil => simp at hl
    | @cons v vs d' ds h t =>
      rw [List.zip_cons_cons, List.lookup_cons] at e ⊢
      cases q : f == n with
      | true =>
        rw [q] at e
        cases e
        exact ⟨v, rfl, h⟩
      | false =>
        rw [q] at e
        exact ih vs ds (by simpa using hl) t e
theorem look_none {f : Str} : ∀ {ns : List Str} {vs : List V}, f ∉ ns → (ns.zip vs).lookup f = none
  | [], _, _ => by simp
  | n :: ns, [], _ => by simp
  | n :: ns, v :: vs, h => by
    rw [List.zip_cons_cons, List.lookup_cons]
    have : (f == n) = false := by
      rw [beq_eq_false_iff_ne]; exact fun e => h (by rw [e]; exact List.mem_cons_self ..)
    rw [this]
    exact look_none fun m => h (List.mem_cons_of_mem _ m)
section
variable {X : Cx} {r : List Slot} {e a : Expr} {es : List Expr} {pos p apos : Pos} {d : D} {ds dD : List D} {C : Addr} {ns : List Str} {f x : Str}
/-- o.f -/
theorem pb_fld (ha : PB X r a (.ins C ns ds)) (c : Cls X.K C) (n : NoAttr X.K C f) (l : (ns.zip ds).lookup f = some d := by rfl) (hb : attributeBase a f X.env (eval a X.env) = eval a X.env := by rfl) : PB X r (.Attribute a f pos) d := fun F G t H A Q q =>
  oE (pe_fld cE hb) (ha F G t H A _ fun v G1 H1 e1 k1 => by
    cases k1 with
    | ins h1 h2 h3 =>
      obtain ⟨w, hw, kw⟩ := look_zip _ _ _ h2 h3 l
      exact ⟨_, C, _, _, w, rfl, h1, c, n, hw, q w G1 H1 e1 kw⟩)
theorem pp_fld (ha : PP X r a (.ins C ns ds)) (c : Cls X.K C) (n : NoAttr X.K C f) (l : (ns.zip ds).lookup f = some d := by rfl) (hb : attributeBase a f X.env (eval a X.env) = eval a X.env := by rfl) : PP X r (.Attribute a f pos) d := fun F G t H A Q q =>
  oE (pe_fld cE hb) (ha F G t H A _ fun v G1 H1 e1 k1 => by
    cases k1 with
    | ins h1 h2 h3 =>
      obtain ⟨w, hw, kw⟩ := look_zip _ _ _ h2 h3 l
      exact ⟨_, C, _, _, w, rfl, e1.gh _ _ h1, c, n, hw, q w G1 H1 e1 kw⟩)
end
/-! ### methods -/
/-- a method that keeps a contract (the object first) -/
structure HasM (P : Program) (w : World) (K : PySem.W.Frag) (mg : Str → Option Value) (base : Heap) (k : Nat) (C : Addr) (m : Str) (Ct0 : Ct) : Prop where
  ex : ∃ f fd ps, Cls K C ∧ Meth K C m f ∧ FnOk P w K mg base CX0 k f fd ps (spC K Ct0) ∧ Binds K fd ps []
/-- a method of the text -/
structure Dm (K : PySem.W.Frag) (C : Addr) (m q : Str) (st : Stmt) (ps : List Str) : Prop where
  ex : ∃ f fd, Fun K m q st f fd ∧ Cls K C ∧ Meth K C m f ∧ Binds K fd ps []
section
variable {P : Program} {w : World} {K : PySem.W.Frag} {mg : Str → Option Value} {base : Heap}
theorem HasM.mono {j k : Nat} {C : Addr} {m : Str} {Ct0 : Ct} (h : HasM P w K mg base j C m Ct0) (l : j ≤ k) : HasM P w K mg base k C m Ct0 := by
  obtain ⟨f, fd, ps, c, mt, F, b⟩ := h
  exact ⟨f, fd, ps, c, mt, F.mono l, b⟩
theorem has_meth {C : Addr} {m q : Str} {st : Stmt} {ps N : List Str} {k : Nat} {Ct0 : Ct} (T : Dm K C m q st ps) (S : FnScope N ps (defScope st)) (hl : ∀ ds s, Ct0 ds s → ds.length = ps.length)
    (hb : ∀ ds s, Ct0 ds s → ∀ f cdv A outer s0 H E, Room k (A.deeper (envOfC q (defScope st) s0.heap.objs.size f cdv)) →
      HS (cx0 P w K mg base N q (defScope st) f cdv A outer s0 H E) (entry N ds) (defBody st) (fun _ => s = .d .non) (fun s' _ => s' = s)) : HasM P w K mg base (k + 1) C m Ct0 := by
  obtain ⟨f, fd, F, c, mt, b⟩ := T
  exact ⟨f, fd, ps, c, mt, fn_ok F S hl fun ds s c => hb ds s c f, b⟩
end
section
variable {X : Cx} {r : List Slot} {e a : Expr} {es : List Expr} {pos p apos : Pos} {d : D} {ds os dD : List D} {C : Addr} {ns : List Str} {m x : Str} {k : Nat} {Ct0 : Ct}
/-- o.m(e, ..), looked at -/
theorem pb_meth {pl : Sem Bool} (h : HasM X.prog X.w X.K X.mg X.base k C m Ct0) (hr : Room k X.A) (ho : PB X r a (.ins C ns os)) (ha : AB X r (e :: es) ds) (hc : Ct0 (.ins C ns os :: ds) (.d d)) (hn : m ∉ ns := by decide)
    (hst : starEach (e :: es) X.env = (false, eval e X.env) :: starEach es X.env := by rfl) (hpl : (backTo pos (starEach es X.env)).any (·.1) = false := by rfl)
    (ht : eval (.Call (.Attribute a m apos) (e :: es) [] pos) X.env = (do
      let ov ← eval a X.env
      standAt apos.atName
      let (f, first) ← holding [ov] (getMethod ov m pl)
      callWith pos f first (backTo pos (starEach (e :: es) X.env)) (backToKw pos (keywordEach [] X.env))) := by rfl) : PB X r (.Call (.Attribute a m apos) (e :: es) [] pos) d := fun F G t H A Q q => by
  obtain ⟨f, fd, ps, c, mt, Fn, b⟩ := h
  refine oE (pe_meth (pl := pl) cE c mt Fn hr b .nil pass0 cA hst hpl ht) (ho F G t H A _ fun v G1 H1 e1 k1 => ?_)
  cases k1 with
  | ins h1 h2 h3 =>
    refine ⟨_, _, _, rfl, h1, look_none hn, ha F G1 t H1 (A.ext e1) _ fun vs G2 H2 e2 k2 => ⟨H2, .ins C ns os :: ds, .d d, Same.refl H2, ?_, hc, fun v H' ret => ?_⟩⟩
    · rw [List.append_nil]
      exact .cons (.ins (e2.h _ _ h1) h2 (DtAll.mono e2.h _ _ h3)) k2
    · obtain ⟨G', e3, k3⟩ := ret.ext
      have e := e1.trans e2
      exact q v G2 H' ⟨e.g, e.gh.trans e3.h, e.h.trans e3.h, e.nw⟩ (Dt.mono e3.gh _ _ k3)
end
/-! ### objects made -/
/-- __init__ that keeps its arguments, one a field -/
def spI (C : Addr) (ns : List Str) : Sp := fun vs H Q _ => ∃ a dx ws, vs = .ref a :: ws ∧ ws.length = ns.length ∧ H a = some (.ins C dx []) ∧ Q .non (upd H a (.ins C dx (ns.zip ws)))
structure HasI (P : Program) (w : World) (K : PySem.W.Frag) (mg : Str → Option Value) (base : Heap) (k : Nat) (x : Str) (C : Addr) (ns : List Str) : Prop where
  ex : ∃ f fd ps, Mk K C f ∧ mg x = some (.ref C) ∧ FnOk P w K mg base CX0 k f fd ps (spI C ns) ∧ Binds K fd ps []
theorem Ext.obj {G H : Hp} {x dx : Addr} {C : Addr} {fs : List (Str × V)} (e : Same G H) (hx : H x = none) (hdx : H dx = none) (ne : dx ≠ x) :
    Ext G H (upd G x (.ins C dx fs)) (upd (upd (upd H dx (.own x)) x (.ins C dx [])) x (.ins C dx fs)) := by
  refine ⟨Same.new (e.free hx), fun a o q => ?_, fun a o q => ?_, fun a ha hg => ?_⟩
  · by_cases c : a = x
    · subst c; rw [upd_same] at q ⊢; exact q
    · rw [upd_ne c] at q
      rw [upd_ne c, upd_ne c, upd_ne (ne_of_none (e _ _ q) hdx)]; exact e _ _ q
  · rw [upd_ne (ne_of_none q hx), upd_ne (ne_of_none q hx), upd_ne (ne_of_none q hdx)]; exact q
  · rw [upd_ne (fun c => ha (by rw [c]; exact hx))]; exact hg
section
variable {X : Cx} {r : List Slot} {e a : Expr} {es : List Expr} {pos p apos : Pos} {d : D} {ds : List D} {C : Addr} {ns : List Str} {m x : Str} {k : Nat}
theorem pp_make (h : HasI X.prog X.w X.K X.mg X.base k x C ns) (hr : Room (k + 1) X.A) (ha : AQ X r (e :: es) ds) (hl : ds.length = ns.length := by rfl) (hg : Gl X x := by rfl) (hdb : (x == ("__debug__" : Str)) = false := by decide)
    (he : starEach (e :: es) X.env = (false, eval e X.env) :: starEach es X.env := by rfl) (hpl : (backTo pos (starEach es X.env)).any (·.1) = false := by rfl) : PP X r (.Call (.Name x p) (e :: es) [] pos) (.ins C ns ds) := fun F G t H A Q q => by
  obtain ⟨f, fd, ps, mk, hm, Fn, b⟩ := h
  refine oE (pe_make mk Fn hr hg hm b .nil pass0 cA hdb he hpl) (ha F G t H A _ fun vs G1 H1 e1 k1 => fun y dy ny ndy ne => ?_)
  rw [List.append_nil]
  refine ⟨y, dy, vs, rfl, by rw [k1.len, hl], upd_same, rfl, ?_⟩
  have eo : Ext G1 H1 (upd G1 y (.ins C dy (ns.zip vs))) _ := Ext.obj (C := C) (fs := ns.zip vs) e1.gh ny ndy ne
  exact q (.ref y) _ _ (e1.trans eo) (.ins upd_same (by rw [k1.len, hl]) (DtAll.mono (Same.new (e1.gh.free ny)) _ _ k1))
end
end DL

/-! Part 14: plain __init__s; own classes asked for. -/
namespace DL
open PySem PySem.Spec PyProof.Rows L2
/-- a class of the text with its __init__ -/
structure Di (K : PySem.W.Frag) (mg : Str → Option Value) (x q : Str) (C : Addr) (st : Stmt) (ps ns : List Str) : Prop where
  ex : ∃ f fd, Fun K "__init__" q st f fd ∧ Mk K C f ∧ Binds K fd ps []
  mgC : mg x = some (.ref C)
  cl : Cls K C
  na : ∀ n, n ∈ ns → NoAttr K C n
section
variable {P : Program} {w : World} {K : PySem.W.Frag} {mg : Str → Option Value} {base : Heap}
theorem vis_of {N ps : List Str} {sc : Scope} (S : FnScope N ps sc) {p : Str} (h : p ∈ ps) : Vis sc p := (S.par p h).elim .inl fun z => .inr (.inl z)
theorem init1 {x q p0 p1 n1 : Str} {C : Addr} {st : Stmt} {a1 a2 a3 a4 : Pos} (T : Di K mg x q C st [p0, p1] [n1]) (S : FnScope [p0, p1] [p0, p1] (defScope st)) (hbd : defBody st = [.Assign [.Attribute (.Name p0 a1) n1 a2] (.Name p1 a3) a4] := by rfl)
    (e0 : (p0 == ("__debug__" : Str)) = false := by decide) (e1 : (p1 == ("__debug__" : Str)) = false := by decide) (c0 : (p0 == ("__classdict__" : Str)) = false := by decide) (c1 : (p1 == ("__classdict__" : Str)) = false := by decide) : HasI P w K mg base 1 x C [n1] := by
  obtain ⟨f, fd, Fn, mk, b⟩ := T.ex
  refine ⟨f, fd, [p0, p1], mk, T.mgC, ?_, b⟩
  refine Fn.ok S (fun vs H Q E h => ?_) fun cdv A outer s H vs Q E hr h => ?_
  · obtain ⟨a, dx, ws, rfl, hl, _⟩ := h
    simp only [List.length_cons, hl]
  · obtain ⟨a, dx, ws, rfl, hl, ha, hq⟩ := h
    match ws, hl with
    | [v1], _ =>
      rw [hbd]
      exact ⟨_, pss_one (ps_fld (pe_var (i := 0) rfl (vis_of S (by simp)) e0 c0) (pe_var (i := 1) rfl (vis_of S (by simp)) e1 c1) rfl), v1, rfl, .ref a, rfl, a, C, dx, [], rfl, ha, T.cl, T.na n1 (by simp), by decide, hq⟩
theorem init2 {x q p0 p1 p2 n1 n2 : Str} {C : Addr} {st : Stmt} {a1 a2 a3 a4 b1 b2 b3 b4 : Pos} (T : Di K mg x q C st [p0, p1, p2] [n1, n2]) (S : FnScope [p0, p1, p2] [p0, p1, p2] (defScope st))
    (hbd : defBody st = [.Assign [.Attribute (.Name p0 a1) n1 a2] (.Name p1 a3) a4, .Assign [.Attribute (.Name p0 b1) n2 b2] (.Name p2 b3) b4] := by rfl)
    (hne : n1 ≠ n2 := by decide) (e0 : (p0 == ("__debug__" : Str)) = false := by decide) (e1 : (p1 == ("__debug__" : Str)) = false := by decide) (e2 : (p2 == ("__debug__" : Str)) = false := by decide) (c0 : (p0 == ("__classdict__" : Str)) = false := by decide) (c1 : (p1 == ("__classdict__" : Str)) = false := by decide) (c2 : (p2 == ("__classdict__" : Str)) = false := by decide) : HasI P w K mg base 1 x C [n1, n2] := by
  obtain ⟨f, fd, Fn, mk, b⟩ := T.ex
  refine ⟨f, fd, [p0, p1, p2], mk, T.mgC, ?_, b⟩
  refine Fn.ok S (fun vs H Q E h => ?_) fun cdv A outer s H vs Q E hr h => ?_
  · obtain ⟨a, dx, ws, rfl, hl, _⟩ := h
    simp only [List.length_cons, hl]
  · obtain ⟨a, dx, ws, rfl, hl, ha, hq⟩ := h
    match ws, hl with
    | [v1, v2], _ =>
      rw [hbd]
      refine ⟨_, pss_cons (ps_fld (pe_var (i := 0) rfl (vis_of S (by simp)) e0 c0) (pe_var (i := 1) rfl (vis_of S (by simp)) e1 c1) rfl) (pss_one (ps_fld (pe_var (i := 0) rfl (vis_of S (by simp)) e0 c0) (pe_var (i := 2) rfl (vis_of S (by simp)) e2 c2) rfl)), ?_⟩
      refine ⟨v1, rfl, .ref a, rfl, a, C, dx, [], rfl, ha, T.cl, T.na n1 (by simp), by decide, v2, rfl, .ref a, rfl, a, C, dx, [(n1, v1)], rfl, upd_same, T.cl, T.na n2 (by simp), by simp, ?_⟩
      have ep : putF n2 v2 [(n1, v1)] = [n1, n2].zip [v1, v2] := by
        unfold putF
        rw [if_neg hne]; rfl
      rw [ep]
      have eu : ∀ o o', upd (upd H a o) a o' = upd H a o' := fun o o' => by
        funext b
        by_cases c : b = a
        · rw [c, upd_same, upd_same]
        · rw [upd_ne c, upd_ne c, upd_ne c]
      rw [eu]
      exact hq
theorem di_mk {h : Heap} {x q : Str} {C f : Addr} {st : Stmt} {ps ns : List Str} {oc : Value} {od an : Option Addr} {osl : Array (Option Value)} {kV doc pm cdv ct : Value} (X : K.In h) (G : h.Ns mainGlobals mg) (a : PySem.W.nsIn K mainGlobals x = some (some (.ref C)))
    (i : PySem.W.findIn K (.ref C) "__init__" = some (some (.ref f))) (l : K.lookup f = some ⟨oc, od, .func (PySem.W.fnOf "__init__" q (defArgs st) (defBody st) (defScope st) .none kV doc pm an cdv ct), osl⟩) (c : PySem.W.codeIn K cdv q = true) (k : PySem.W.keepIn K (.ref f) = true)
    (fn : PySem.W.isFn K (.ref f) = true) (m : PySem.W.makesIn K C = true) (kc : PySem.W.keepIn K (.ref C) = true) (cl : Cls K C) (na : ∀ n, n ∈ ns → NoAttr K C n)
    (hb : ∀ (kV doc pm : Value) (an : Option Addr) (cdv ct : Value) (us : List Value), us.length = ps.length → bindArgs (PySem.W.fnOf "__init__" q (defArgs st) (defBody st) (defScope st) .none kV doc pm an cdv ct) ⟨us, []⟩ = pure (ps.zip us)) : Di K mg x q C st ps ns :=
  ⟨⟨f, _, fun_mk l c k, ⟨m, i, fn, kc⟩, (fun_mk (st := st) l c k).binds hb⟩, PySem.W.mg_of X G a, cl, na⟩
theorem dm_mk {m q : Str} {C f : Addr} {st : Stmt} {ps : List Str} {oc : Value} {od an : Option Addr} {osl : Array (Option Value)} {kV doc pm cdv ct : Value} 
    (i : PySem.W.findIn K (.ref C) m = some (some (.ref f))) (l : K.lookup f = some ⟨oc, od, .func (PySem.W.fnOf m q (defArgs st) (defBody st) (defScope st) .none kV doc pm an cdv ct), osl⟩) (c : PySem.W.codeIn K cdv q = true) (k : PySem.W.keepIn K (.ref f) = true)
    (fn : PySem.W.isFn K (.ref f) = true) (cl : Cls K C)
    (hb : ∀ (kV doc pm : Value) (an : Option Addr) (cdv ct : Value) (us : List Value), us.length = ps.length → bindArgs (PySem.W.fnOf m q (defArgs st) (defBody st) (defScope st) .none kV doc pm an cdv ct) ⟨us, []⟩ = pure (ps.zip us)) : Dm K C m q st ps :=
  ⟨f, _, fun_mk l c k, cl, ⟨i, fn, k⟩, (fun_mk (st := st) l c k).binds hb⟩
end
end DL

/-! Part 15: lists of ranges; comprehensions over tuples. -/
namespace DL
open PySem PySem.Spec PyProof.Rows L2
theorem vals_rg3 {a c : Int} {n : Nat} {acc : Array Value} (h : ItemsOf (fun i v => ∃ t, v = .int (a + i * c) t) acc n) : Vals (((List.range n).map fun i => a + (i : Nat) * c).map V.int) acc.toList := by
  have e : acc.toList.length = n := by rw [Array.length_toList]; exact h.1
  rw [List.map_map, ← e]
  refine vals_of_get acc.toList _ fun j u hj => ?_
  obtain ⟨t, rfl⟩ := h.2 j u (by rw [← hj, Array.getElem?_toList])
  exact ⟨t, rfl⟩
section
variable {X : Cx} {r : List Slot} {e a b c it elt : Expr} {pos p px py pos2 p2 : Pos} {d : D} {ds : List D} {lo hi st n : Int} {x y : Str} {rest body : List Stmt} {N M : List Slot → Prop} {R : Slot → List Slot → Prop}
theorem dt_rg {K : PySem.W.Frag} {G : Hp} (a b : Int) : DtAll K G (rgV a b) (((List.range (b - a).toNat).map fun i => a + (i : Nat)).map D.int) := by
  unfold rgV
  have e : ((List.range (b - a).toNat).map fun i => V.int (a + (i : Nat))) = ((List.range (b - a).toNat).map fun i => a + (i : Nat)).map V.int := by rw [List.map_map]; rfl
  rw [e]; exact DtAll.ints _
/-- list(range(a, b)) -/
theorem po_rng (B : Bi X.mg) (ha : PB X r a (.int lo)) (hb : PB X r b (.int hi)) (ok : RgOk lo hi) (hc : X.calm = true := by rfl) (hg : Gl X "list" := by rfl) (hg2 : Gl X "range" := by rfl)
    (na : starEach [a, b] X.env = (false, eval a X.env) :: starEach [b] X.env := by rfl) (nb : starEach [b] X.env = (false, eval b X.env) :: starEach [] X.env := by rfl) (hp : (backTo pos2 (starEach [b] X.env)).any (·.1) = false := by rfl)
    (nl : starEach [.Call (.Name "range" p2) [a, b] [] pos2] X.env = (false, eval (.Call (.Name "range" p2) [a, b] [] pos2) X.env) :: starEach [] X.env := by rfl) :
    PO X r (.Call (.Name "list" p) [.Call (.Name "range" p2) [a, b] [] pos2] [] pos) (((List.range (hi - lo).toNat).map fun i => lo + (i : Nat)).map .int) := fun F G t H A Q q =>
  oE (pe_listRg hc hg B.list (prg_2 hg2 B.range cE cE na nb hp) nl) (two A ha hb fun v1 v2 G' H' e k1 k2 => by
    cases k1; cases k2
    exact ⟨lo, hi, rfl, rfl, ok, fun u hu => q u _ G' _ (e.trans (Ext.newO e.gh hu)) (e.h.free hu) (e.gh.free hu) upd_same (dt_rg lo hi)⟩)
/-- list(range(n)) -/
theorem po_rng1 (B : Bi X.mg) (ha : PB X r a (.int hi)) (ok : RgOk 0 hi) (hc : X.calm = true := by rfl) (hg : Gl X "list" := by rfl) (hg2 : Gl X "range" := by rfl)
    (na : starEach [a] X.env = (false, eval a X.env) :: starEach [] X.env := by rfl)
    (nl : starEach [.Call (.Name "range" p2) [a] [] pos2] X.env = (false, eval (.Call (.Name "range" p2) [a] [] pos2) X.env) :: starEach [] X.env := by rfl) :
    PO X r (.Call (.Name "list" p) [.Call (.Name "range" p2) [a] [] pos2] [] pos) (((List.range hi.toNat).map fun i => ((i : Nat) : Int)).map .int) := fun F G t H A Q q =>
  oE (pe_listRg hc hg B.list (prg_1 hg2 B.range cE na) nl) (ha F G t H A _ fun v1 G' H' e k1 => by
    cases k1
    refine ⟨hi, rfl, ok, fun u hu => q u _ G' _ (e.trans (Ext.newO e.gh hu)) (e.h.free hu) (e.gh.free hu) upd_same ?_⟩
    have z := dt_rg (K := X.K) (G := G') 0 hi
    have e1 : ((List.range (hi - 0).toNat).map fun i => (0 : Int) + (i : Nat)) = (List.range hi.toNat).map fun i => ((i : Nat) : Int) := by
      rw [Int.sub_zero]
      exact List.map_congr_left fun i _ => Int.zero_add _
    rw [e1] at z; exact z)
/-- list(range(a, b, c)) -/
def tLst3 (ta : TA) : TE := fun σ H Q => ta σ H fun vs H1 => ∃ (i j c : Int) (n : Nat), vs = [.int i, .int j, .int c] ∧ RgC i j c n ∧ n ≤ 2 ^ 24 ∧ ∀ q, H1 q = none → Q (.ref q) (upd H1 q (.lst (((List.range n).map fun k => i + (k : Nat) * c).map V.int)))
theorem pe_list3 {ta : TA} (hc : X.calm = true) (hg : Gl X "list") (hm : X.mg "list" = none) (hg2 : Gl X "range") (hm2 : X.mg "range" = none) (ha : PA X [a, b, c] ta) (hs : starEach [a, b, c] X.env = (false, eval a X.env) :: starEach [b, c] X.env) (hpl : (backTo pos2 (starEach [b, c] X.env)).any (·.1) = false)
    (nl : starEach [.Call (.Name "range" p2) [a, b, c] [] pos2] X.env = (false, eval (.Call (.Name "range" p2) [a, b, c] [] pos2) X.env) :: starEach [] X.env) : PE X (.Call (.Name "list" p) [.Call (.Name "range" p2) [a, b, c] [] pos2] [] pos) (tLst3 ta) := by
  refine ⟨fun pins s σ H Q I h => ?_⟩
  refine Call_ (ld_blt I hg hm boot_list (PyProof.Rows.callWith_type1 (args_cons ?_ nl) nl))
  refine Call_ (ld_blt I hg2 hm2 boot_range (PyProof.Rows.callWith_type1 (thn (ha.run pos2 pins s σ H _ I h) fun us s1 ⟨vs, H1, I1, r1, q1⟩ => ?_) hs hpl))
  obtain ⟨i, j, c', n, rfl, ⟨c0, c1, sm, sz⟩, hn, q⟩ := q1
  obtain ⟨u1, u2, u3, rfl, ⟨t1, rfl⟩, ⟨t2, rfl⟩, ⟨t3, rfl⟩⟩ : ∃ u1 u2 u3, us = [u1, u2, u3] ∧ RelV (.int i) u1 ∧ RelV (.int j) u2 ∧ RelV (.int c') u3 := by
    cases r1 with
    | cons p q => cases q with
      | cons p' q' => cases q' with
        | cons p'' q'' => cases q''; exact ⟨_, _, _, rfl, p, p', p''⟩
  refine call_range_3 c0 (args_nil ?_) (.inl (PyProof.noPylong_small c1))
  have I2 : Inv X pins σ H1 { s1 with heap := s1.heap.push { cls := .type "range", data := .fields #[.int i t1, .int j t2, .int c' t3] } } := I1.kept (t' := s1.toks) fun b o e => Heap.get?_push_of_some _ e
  refine call_list_range (n := n) (I2.ok.hd hc) (IsRange.new _ _ _ _ _ _ _) sm sz hn fun h' tk acc k' hk e' hi => ?_
  refine ⟨.ref _, upd H1 _ (.lst (((List.range n).map fun k => i + (k : Nat) * c').map V.int)), I2.laid hk (Nat.le_refl _) (show ObjOk X.prog X.w _ _ _ (.lst _) from ⟨?_, acc.toList, k', vals_rg3 hi, ?_⟩), rfl, q _ (I2.hok.fresh (Nat.le_refl _))⟩
  · rw [List.length_map, List.length_map, List.length_range, sizeLine_eq]; omega
  · rw [Array.toArray_toList]; exact e'
theorem po_rng3 {n : Nat} (B : Bi X.mg) (ha : PB X r a (.int lo)) (hb : PB X r b (.int hi)) (hcc : PB X r c (.int st)) (ok : RgC lo hi st n) (hn : n ≤ 2 ^ 24) (hc : X.calm = true := by rfl) (hg : Gl X "list" := by rfl) (hg2 : Gl X "range" := by rfl)
    (hs : starEach [a, b, c] X.env = (false, eval a X.env) :: starEach [b, c] X.env := by rfl) (hs2 : starEach [b, c] X.env = (false, eval b X.env) :: starEach [c] X.env := by rfl) (hs3 : starEach [c] X.env = (false, eval c X.env) :: starEach [] X.env := by rfl) (hpl : (backTo pos2 (starEach [b, c] X.env)).any (·.1) = false := by rfl)
    (nl : starEach [.Call (.Name "range" p2) [a, b, c] [] pos2] X.env = (false, eval (.Call (.Name "range" p2) [a, b, c] [] pos2) X.env) :: starEach [] X.env := by rfl) :
    PO X r (.Call (.Name "list" p) [.Call (.Name "range" p2) [a, b, c] [] pos2] [] pos) (((List.range n).map fun i => lo + (i : Nat) * st).map .int) := fun F G t H A Q q =>
  oE (pe_list3 hc hg B.list hg2 B.range cA hs hpl nl) (ab_cons ha (ab_cons hb (ab_cons hcc ab_nil hs3) hs2) hs F G t H A _ fun vs G' H' e k => by
    match vs, k with
    | _, .cons (.int _) (.cons (.int _) (.cons (.int _) .nil)) =>
      exact ⟨lo, hi, st, n, rfl, ok, hn, fun u hu => q u _ G' _ (e.trans (Ext.newO e.gh hu)) (e.h.free hu) (e.gh.free hu) upd_same (DtAll.ints _)⟩)
variable {α : Type} [Inhabited α] {fa : α → D} {as : List α}
/-- [elt for x in (a, b, ..)] -/
theorem po_TA {scope : Scope} (j : Nat) {s : Slot} (nd : X.N.Nodup) (g : α → D) (ha : PP X r a (.tup ds)) (hds : ds = as.map fa) (hn : as.length ≤ sizeLine) (he : ∀ z, z ∈ as → ∀ s H C cl fp, PP (Blk X scope s H C cl fp) (r.set j (.d (fa z))) elt (g z))
    (ok : BlkOk X.N X.env.scope scope [(x, j)] := by exact blkOk_by (by kernel_rfl)) (hb : BlkN X scope x px j := by first | exact fun _ _ _ _ _ => pg_name (by assumption) rfl (Or.inl rfl) | exact fun _ _ _ _ _ => pg_name (by assumption) rfl (Or.inr rfl)) (hr : r[j]? = some s := by rfl) (hc : X.calm = true := by rfl) (hfs : ∀ x, foldedSetIterable a X.env x = pure x := by intro _; rfl) :
    PO X r (.ListComp elt [⟨.Name x px, a, [], 0⟩] scope pos) (as.map g) := by
  subst hds
  exact po_is (po_lcT (cpos := pos) j nd (fun _ => true) (fun k => g (as.getD k default)) ha (by rw [List.length_map]; exact hn) (fun _ _ _ _ _ _ _ _ => fq_nil) (fun k d hd _ => by
    obtain ⟨z, hz, rfl⟩ := lists_get hd
    rw [getD_at hz]
    exact he z (List.mem_of_getElem? hz)) ok hb hr hc hfs) (by rw [List.length_map]; exact madeD_by g as)
theorem hs_TA {scope : Scope} {spos : Pos} (i : Nat) {s1 : Slot} (sl : Slot) (j : Nat) {s : Slot} (nd : X.N.Nodup) (g : α → D) (ha : PP X r a (.tup ds)) (hds : ds = as.map fa) (hn : as.length ≤ sizeLine) (he : ∀ z, z ∈ as → ∀ s H C cl fp, PP (Blk X scope s H C cl fp) (r.set j (.d (fa z))) elt (g z))
    (hsl : sl = .o (as.map g) ∨ sl = .d (.lst (as.map g))) (k : HS X (r.set i sl) rest N R)
    (ok : BlkOk X.N X.env.scope scope [(x, j)] := by exact blkOk_by (by kernel_rfl)) (hb : BlkN X scope x px j := by first | exact fun _ _ _ _ _ => pg_name (by assumption) rfl (Or.inl rfl) | exact fun _ _ _ _ _ => pg_name (by assumption) rfl (Or.inr rfl)) (hr : r[j]? = some s := by rfl) (hc : X.calm = true := by rfl) (hfs : ∀ x, foldedSetIterable a X.env x = pure x := by intro _; rfl)
    (hr1 : r[i]? = some s1 := by rfl) (hy : X.N[i]? = some y := by rfl) (hyl : X.env.scope.names.lookup y = some .local := by rfl) (hsw : swapsWith (.ListComp elt [⟨.Name x px, a, [], 0⟩] scope pos) (some (.Name y py)) spos.line X.env = pure true := by exact sw_true rfl rfl rfl (by kernel_rfl)) :
    HS X r (.Assign [.Name y py] (.ListComp elt [⟨.Name x px, a, [], 0⟩] scope pos) spos :: rest) N R := by
  subst hds
  exact hs_lcT (cpos := pos) i sl j nd (fun _ => true) (fun k => g (as.getD k default)) ha (by rw [List.length_map]; exact hn) (fun _ _ _ _ _ _ _ _ => fq_nil) (fun k d hd _ => by
    obtain ⟨z, hz, rfl⟩ := lists_get hd
    rw [getD_at hz]
    exact he z (List.mem_of_getElem? hz)) ok hb hr hc hfs (by rw [List.length_map, madeD_by g as]; exact hsl) k hr1 hy hyl hsw
end
/-! lists of truths -/
theorem Pl.bls {n : Nat} {ns : List Bool} : Pl (n + 1) (.lst (ns.map D.bl)) := .lst fun d hd => by
  obtain ⟨z, _, rfl⟩ := List.mem_map.mp hd
  exact .bl
theorem eqvs_bls : ∀ a b : List Bool, PyData.eqvAll (toPys (a.map D.bl)) (toPys (b.map D.bl)) = decide (a = b)
  | [], [] => rfl
  | [], _ :: _ => rfl
  | _ :: _, [] => rfl
  | x :: a, y :: b => by
    show ((x == y) && PyData.eqvAll (toPys (a.map D.bl)) (toPys (b.map D.bl))) = _
    rw [eqvs_bls a b]
    by_cases h : x = y <;> by_cases h' : a = b <;> simp [h, h']
theorem cr_eqLB {X : Cx} {k : Nat} {a b : List Bool} (hr : Room k X.A) : CR X .Eq (.lst (a.map D.bl)) (.lst (b.map D.bl)) (decide (a = b)) := by
  rw [← eqvs_bls]; exact cr_eqP hr (n := 1) (m := 1) .bls .bls
theorem cr_neLB {X : Cx} {k : Nat} {a b : List Bool} (hr : Room k X.A) : CR X .NotEq (.lst (a.map D.bl)) (.lst (b.map D.bl)) (!decide (a = b)) := by
  rw [← eqvs_bls]; exact cr_neP hr (n := 1) (m := 1) .bls .bls
theorem sc_bls {ns : List Bool} : ∀ d, d ∈ ns.map D.bl → Sc d := fun d hd => by
  obtain ⟨n, _, rfl⟩ := List.mem_map.mp hd
  exact .bl
end DL
namespace DL
open PySem L2
/-- a test of words as a part of another -/
theorem tq_to {X : Cx} {r : List Slot} {e : Expr} {k : Bool} (h : WQ X r e k) : WQ X r e k := h
end DL
namespace DL
theorem Le.trans : ∀ {a b c : List Slot}, Le a b → Le b c → Le a c
  | _, _, _, .nil, h => h
  | _, _, _, .same h, .same k => .same (Le.trans h k)
  | _, _, _, .same h, .drop k => .drop (Le.trans h k)
  | _, _, _, .same h, .tell k => .tell (Le.trans h k)
  | _, _, _, .drop h, .same k => .drop (Le.trans h k)
  | _, _, _, .drop h, .drop k => .drop (Le.trans h k)
  | _, _, _, .tell h, .same k => .tell (Le.trans h k)
  | _, _, _, .tell h, .drop k => .drop (Le.trans h k)
end DL
namespace DL
open PySem L2
theorem na_nil {K : PySem.W.Frag} {C : Addr} : ∀ n : Str, n ∈ ([] : List Str) → NoAttr K C n := fun _ h => by cases h
theorem na_cons {K : PySem.W.Frag} {C : Addr} {f : Str} {ns : List Str} (h : PySem.W.findIn K (.ref C) f = some none) (t : ∀ n, n ∈ ns → NoAttr K C n) : ∀ n, n ∈ f :: ns → NoAttr K C n := fun n hn => by
  rcases List.mem_cons.mp hn with rfl | hn
  · exact h
  · exact t n hn
end DL

/-! Part 16: new objects, ours; isinstance of own classes. -/
namespace DL
open PySem PySem.Spec PyProof.Rows L2
/-- a new object, ours -/
def PM (X : Cx) (r : List Slot) (e : Expr) (C : Addr) (ns : List Str) (ds : List D) : Prop := ∀ (F : Fr) (G : Hp) (t : L2.St) (H : Hp), At X.K F G r t H → ∀ Q : VK,
  (∀ p dx vs G' H', Ext G H G' H' → H p = none → G' p = none → H' p = some (.ins C dx (ns.zip vs)) → vs.length = ns.length → DtAll X.K G' vs ds → Q (.ref p) H') → tE X e t H Q
/-- an object of data fields -/
def Slot.obj (C : Addr) (ns : List Str) (ds : List D) : Slot := .ob none C ((ns.zip ds).map fun p => (p.1, .d p.2))
theorem flds_of {K : PySem.W.Frag} {G H : Hp} : ∀ {ns : List Str} {vs : List V} {ds : List D}, vs.length = ns.length → DtAll K G vs ds → FldsOk K G H ((ns.zip ds).map fun p => (p.1, Fld.d p.2)) (ns.zip vs) [] := by
  intro ns
  induction ns with
  | nil => intro vs ds _ _; simp; exact .nil
  | cons n ns ih =>
    intro vs ds hl h
    cases h with
    | nil => simp at hl
    | cons h1 h2 => exact FldsOk.cons (fp := []) ⟨rfl, h1⟩ (ih (by simpa using hl) h2)
theorem flds_to {K : PySem.W.Frag} {G H : Hp} : ∀ {ns : List Str} {ds : List D} {fs : List (Str × V)} {fp : List Addr}, ds.length = ns.length → FldsOk K G H ((ns.zip ds).map fun p => (p.1, Fld.d p.2)) fs fp → ∃ vs, fs = ns.zip vs ∧ vs.length = ns.length ∧ DtAll K G vs ds := by
  intro ns
  induction ns with
  | nil =>
    intro ds fs fp hl h
    cases ds with
    | nil => cases h; exact ⟨[], rfl, rfl, .nil⟩
    | cons _ _ => simp at hl
  | cons n ns ih =>
    intro ds fs fp hl h
    cases ds with
    | nil => simp at hl
    | cons d ds =>
      cases h with
      | cons h1 h2 =>
        obtain ⟨vs, e, l, k⟩ := ih (by simpa using hl) h2
        subst e
        exact ⟨_ :: vs, rfl, by simp [l], .cons h1.2 k⟩
section
variable {X : Cx} {r : List Slot} {e a : Expr} {es : List Expr} {pos p pT : Pos} {d : D} {ds dD : List D} {C C' : Addr} {ns : List Str} {x : Str} {k : Nat} {Ct0 : Ct} {rest : List Stmt} {N : List Slot → Prop} {R : Slot → List Slot → Prop}
theorem pp_m (h : PM X r e C ns ds) : PP X r e (.ins C ns ds) := fun F G t H A Q q => h F G t H A Q fun p dx vs G' H' e n g k l da =>
  q _ (upd G' p (.ins C dx (ns.zip vs))) H' (e.tell n g k) (.ins upd_same l (DtAll.mono (Same.new g) _ _ da))
theorem pm_make (h : HasI X.prog X.w X.K X.mg X.base k x C ns) (hr : Room (k + 1) X.A) (ha : AQ X r (e :: es) ds) (hl : ds.length = ns.length := by rfl) (hg : Gl X x := by rfl) (hdb : (x == ("__debug__" : Str)) = false := by decide)
    (he : starEach (e :: es) X.env = (false, eval e X.env) :: starEach es X.env := by rfl) (hpl : (backTo pos (starEach es X.env)).any (·.1) = false := by rfl) : PM X r (.Call (.Name x p) (e :: es) [] pos) C ns ds := fun F G t H A Q q => by
  obtain ⟨f, fd, ps, mk, hm, Fn, b⟩ := h
  refine oE (pe_make mk Fn hr hg hm b .nil pass0 cA hdb he hpl) (ha F G t H A _ fun vs G1 H1 e1 k1 => fun y dy ny ndy ne => ?_)
  rw [List.append_nil]
  refine ⟨y, dy, vs, rfl, by rw [k1.len, hl], upd_same, rfl, ?_⟩
  have eo : Ext G1 H1 G1 (upd (upd (upd H1 dy (.own y)) y (.ins C dy [])) y (.ins C dy (ns.zip vs))) := by
    have z := Ext.obj (C := C) (fs := ns.zip vs) e1.gh ny ndy ne
    exact ⟨Same.refl _, fun a o q => z.gh a o (z.g a o q), z.h, fun _ _ h => h⟩
  exact q y dy vs G1 _ (e1.trans eo) (e1.h.free ny) (e1.gh.free ny) upd_same (by rw [k1.len, hl]) k1
/-- return of a new object -/
theorem hs_retM (he : PM X r e C ns ds) (m : R (Slot.obj C ns ds) r) : HS X r (.Return (some e) pos :: rest) N R := hs_cons (M := fun _ => False) (fun F G t H nl A D n q =>
  oS (ps_ret cE) (he F G t H A _ fun p dx vs G' H' e np g k l da => by
    obtain ⟨fp0, sl0, _, _⟩ := A.sl
    obtain ⟨o, fp, s, nd, fr⟩ := A.ext e
    have hn : p ∉ fp := fun w => sl0.has p (At.asgO.Slots.same_fp s sl0 e.h ▸ w) np
    refine q (Slot.obj C ns ds) r _ t G' H' m ⟨o, [p] ++ fp, .cons ⟨p, dx, _, [], rfl, rfl, k, flds_of l da, (fun a z => by cases z)⟩ s, ?_, fun a ha => ?_⟩
    · rw [List.singleton_append, List.nodup_cons]
      exact ⟨hn, nd⟩
    · rcases List.mem_append.mp ha with w | w
      · have e : a = p := by simpa using w
        rw [e]
        exact ⟨g, .inl (free_F A np)⟩
      · exact fr a w)) fun _ h => h.elim
theorem Ret.extM {K : PySem.W.Frag} {G H : Hp} {v : V} {H' : Hp} (hl : ds.length = ns.length) (h : Ret K ⟨[], G, H⟩ (Slot.obj C ns ds) v H') : ∃ p dx vs G', v = .ref p ∧ Ext G H G' H' ∧ H p = none ∧ G' p = none ∧ H' p = some (.ins C dx (ns.zip vs)) ∧ vs.length = ns.length ∧ DtAll K G' vs ds := by
  obtain ⟨r', t', G', o, fp, s, _, fr⟩ := h
  cases s with
  | cons h1 _ =>
    obtain ⟨p, dx, fs, fps, e, rfl, k1, k2, _⟩ := h1
    cases e
    obtain ⟨vs, rfl, l, da⟩ := flds_to hl k2
    have z := fr p (by simp)
    exact ⟨p, dx, vs, G', rfl, ⟨o.g, o.gh, fun a u q => o.h a u q (by simp), o.nw⟩, z.2.elim id (fun w => by cases w), z.1, k1, l, da⟩
/-- f(e, ..) hands back a new object of scalars -/
theorem pm_callB (h : Has X.prog X.w X.K X.mg X.base k x dD Ct0) (hr : Room k X.A) (ha : AB X r (e :: es) ds) {os : List D} (hc : Ct0 (ds ++ dD) (Slot.obj C ns os)) (sc : ∀ d, d ∈ os → Sc d) (hl : os.length = ns.length := by rfl) (hg : Gl X x := by rfl) (hdb : (x == ("__debug__" : Str)) = false := by decide)
    (he : starEach (e :: es) X.env = (false, eval e X.env) :: starEach es X.env := by rfl) (hpl : (backTo pos (starEach es X.env)).any (·.1) = false := by rfl) : PM X r (.Call (.Name x p) (e :: es) [] pos) C ns os := fun F G t H A Q q => by
  obtain ⟨dvs, da, pe⟩ := call_of h hr hg hdb he hpl
  refine oE pe (ha F G t H A _ fun vs G1 H1 e1 k1 => ⟨H1, ds ++ dD, _, Same.refl H1, k1.app (da H1), hc, fun v H' ret => ?_⟩)
  obtain ⟨p, dx, vs, G', rfl, e2, n, g, h', l, k2⟩ := ret.extM hl
  exact q p dx vs G1 H' ⟨e1.g, e1.gh.trans e2.h, e1.h.trans e2.h, e1.nw⟩ (e1.h.free n) (e1.gh.free n) h' l (k2.scAny sc)
end
/-- what isinstance asks of an own class -/
structure Kis (K : PySem.W.Frag) (C : Addr) : Prop where
  cl : Cls K C
  ty : ∀ {H : Hp} {a dx : Addr} {fs : List (Str × V)}, H a = some (.ins C dx fs) → TyOf K H (.ref a) (.ref C)
section
variable {X : Cx} {r : List Slot} {a : Expr} {pos p pT : Pos} {ds : List D} {C C' : Addr} {ns : List Str} {x : Str} {b : Bool}
/-- isinstance(o, C') -/
theorem pb_isiC (B : Bi X.mg) (ha : PB X r a (.ins C ns ds)) (ki : Kis X.K C) (hT : X.mg x = some (.ref C')) (hk : PySem.W.kitOne X.K (.ref C) (.ref C') = some b) (hgT : Gl X x := by rfl) (hxd : (x == ("__debug__" : Str)) = false := by decide)
    (hs : starEach [a, .Name x pT] X.env = (false, eval a X.env) :: starEach [.Name x pT] X.env := by rfl) (hg : Gl X "isinstance" := by rfl) (hp : (backTo pos (starEach [.Name x pT] X.env)).any (·.1) = false := by rfl) :
    PB X r (.Call (.Name "isinstance" p) [a, .Name x pT] [] pos) (.bl b) :=
  pb_call1 (v := .bl b) (pe_callB call_isi hg B.isi (by decide +kernel) cA (he := hs) (hpl := hp)) (ab2 ha (pb (pp_gr hT hgT hxd)) hs rfl) (fun vs H Q k q => by
    cases k with
    | cons k1 k2 =>
      cases k2 with
      | cons k2 k3 =>
        cases k3; cases k2
        cases k1 with
        | ins h1 h2 h3 => exact ⟨_, .ref C', _, _, _, rfl, .own C', .base (ki.ty h1), hk, q⟩) fun _ => .bl _
end
theorem kis_mk {K : PySem.W.Frag} {C : Addr} (cl : Cls K C) (ha : PySem.W.findIn K (.ref C) "__class__" = some (some (.builtin "object.__class__"))) (hn : PySem.W.specialIn K (.builtin "object.__class__") "__get__" = some (some (.builtin "getset_descriptor.__get__"))) (htk : PySem.W.takesIn K (.builtin "object.__class__") = some true)
    (hm : PySem.W.mroIn K C (.type "object") = some true) : Kis K C := ⟨cl, fun e => .ins e cl ha hn htk hm⟩
end DL
namespace DL
open PySem L2
/-- a module's name that holds a class -/
structure Mg (mg : Str → Option Value) (x : Str) (C : Addr) : Prop where
  is : mg x = some (.ref C)
/-- whether one class is under another -/
structure Ko (K : PySem.W.Frag) (C C' : Addr) (b : Bool) : Prop where
  is : PySem.W.kitOne K (.ref C) (.ref C') = some b
theorem mg_mk {K : PySem.W.Frag} {mg : Str → Option Value} {h : Heap} {x : Str} {C : Addr} (X : K.In h) (G : h.Ns mainGlobals mg) (a : PySem.W.nsIn K mainGlobals x = some (some (.ref C))) : Mg mg x C := ⟨PySem.W.mg_of X G a⟩
section
variable {X : Cx} {r : List Slot} {it : Expr} {px py pz : Pos} {ds : List D} {x y z : Str} {body : List Stmt} {M : List Slot → Prop} {R : Slot → List Slot → Prop} {α : Type} [Inhabited α] {f1 f2 f3 : α → D} {as : List α}
/-- for x, y in xs -/
theorem s1_forA2 {fpos tpos : Pos} {kt : Nat} (i j : Nat) {s s2 : Nat → Slot} (nd : X.N.Nodup) (I : Nat → List Slot) (ha : PP X r it (.lst ds)) (hds : ds = as.map fun w => .tup [f1 w, f2 w]) (h0 : Le r (I 0)) (hb : ∀ (k : Nat) (w : α), as[k]? = some w → HS X (((I k).set i (.d (f1 w))).set j (.d (f2 w))) body (fun r' => Le r' (I (k + 1))) R) (m : M (I as.length))
    (hij : i ≠ j := by decide) (hr : ∀ k, (I k)[i]? = some (s k) := by intro _; rfl) (hr2 : ∀ k, (I k)[j]? = some (s2 k) := by intro _; rfl) (hN : X.N[i]? = some x := by rfl) (hx : Loc X.env.scope x := by first | exact Or.inl rfl | exact Or.inr rfl) (hf : X.fn x = true ∨ X.env.scope.names.lookup x = some .local := by first | exact .inl rfl | exact .inr rfl)
    (hN2 : X.N[j]? = some y := by rfl) (hx2 : Loc X.env.scope y := by first | exact Or.inl rfl | exact Or.inr rfl) (hf2 : X.fn y = true ∨ X.env.scope.names.lookup y = some .local := by first | exact .inl rfl | exact .inr rfl)
    (hs1 : (assignEach [.Name x px, .Name y py] X.env).map (·.2) = assign (.Name x px) X.env :: (assignEach [.Name y py] X.env).map (·.2) := by rfl) (hs2 : (assignEach [.Name y py] X.env).map (·.2) = assign (.Name y py) X.env :: (assignEach [] X.env).map (·.2) := by rfl) (hal : (assignEach [.Name x px, .Name y py] X.env).length = 2 := by rfl) (hst : (assignEach [.Name x px, .Name y py] X.env).findIdx? (·.1) = none := by rfl)
    (hp : PassesOwn (model X.prog X.w) X.A X.env X.xe := by exact PassesOwn.never) (hc : X.calm = true := by rfl) (hfs : ∀ x, foldedSetIterable it X.env x = pure x := by intro _; rfl) :
    S1 X r (.For (.Tuple [.Name x px, .Name y py] kt tpos) it body [] fpos) M R := by
  subst hds
  exact s1_forL I (fun k => ((I k).set i (.d (f1 (as.getD k default)))).set j (.d (f2 (as.getD k default)))) ha h0 (fun k d hd => by
    obtain ⟨w, hw, rfl⟩ := lists_get hd
    rw [getD_at hw]
    exact gq_t (gqs_cons (gq_n i nd (hr k) hN hx hf) (gqs_cons (gq_n j nd (by rw [List.getElem?_set_ne hij]; exact hr2 k) hN2 hx2 hf2) gqs_nil hs2) hs1) hc hal hst) (fun k d hd => by
    obtain ⟨w, hw, rfl⟩ := lists_get hd
    rw [getD_at hw]
    exact hb k w hw) (by rw [List.length_map]; exact m) hp hc hfs
/-- for x, y, z in xs -/
theorem s1_forA3 {fpos tpos : Pos} {kt : Nat} (i j l : Nat) {s s2 s3 : Nat → Slot} (nd : X.N.Nodup) (I : Nat → List Slot) (ha : PP X r it (.lst ds)) (hds : ds = as.map fun w => .tup [f1 w, f2 w, f3 w]) (h0 : Le r (I 0)) (hb : ∀ (k : Nat) (w : α), as[k]? = some w → HS X ((((I k).set i (.d (f1 w))).set j (.d (f2 w))).set l (.d (f3 w))) body (fun r' => Le r' (I (k + 1))) R) (m : M (I as.length))
    (hij : i ≠ j := by decide) (hil : i ≠ l := by decide) (hjl : j ≠ l := by decide) (hr : ∀ k, (I k)[i]? = some (s k) := by intro _; rfl) (hr2 : ∀ k, (I k)[j]? = some (s2 k) := by intro _; rfl) (hr3 : ∀ k, (I k)[l]? = some (s3 k) := by intro _; rfl) (hN : X.N[i]? = some x := by rfl) (hx : Loc X.env.scope x := by first | exact Or.inl rfl | exact Or.inr rfl) (hf : X.fn x = true ∨ X.env.scope.names.lookup x = some .local := by first | exact .inl rfl | exact .inr rfl)
    (hN2 : X.N[j]? = some y := by rfl) (hx2 : Loc X.env.scope y := by first | exact Or.inl rfl | exact Or.inr rfl) (hf2 : X.fn y = true ∨ X.env.scope.names.lookup y = some .local := by first | exact .inl rfl | exact .inr rfl)
    (hN3 : X.N[l]? = some z := by rfl) (hx3 : Loc X.env.scope z := by first | exact Or.inl rfl | exact Or.inr rfl) (hf3 : X.fn z = true ∨ X.env.scope.names.lookup z = some .local := by first | exact .inl rfl | exact .inr rfl)
    (hs1 : (assignEach [.Name x px, .Name y py, .Name z pz] X.env).map (·.2) = assign (.Name x px) X.env :: (assignEach [.Name y py, .Name z pz] X.env).map (·.2) := by rfl) (hs2 : (assignEach [.Name y py, .Name z pz] X.env).map (·.2) = assign (.Name y py) X.env :: (assignEach [.Name z pz] X.env).map (·.2) := by rfl) (hs3 : (assignEach [.Name z pz] X.env).map (·.2) = assign (.Name z pz) X.env :: (assignEach [] X.env).map (·.2) := by rfl) (hal : (assignEach [.Name x px, .Name y py, .Name z pz] X.env).length = 3 := by rfl) (hst : (assignEach [.Name x px, .Name y py, .Name z pz] X.env).findIdx? (·.1) = none := by rfl)
    (hp : PassesOwn (model X.prog X.w) X.A X.env X.xe := by exact PassesOwn.never) (hc : X.calm = true := by rfl) (hfs : ∀ x, foldedSetIterable it X.env x = pure x := by intro _; rfl) :
    S1 X r (.For (.Tuple [.Name x px, .Name y py, .Name z pz] kt tpos) it body [] fpos) M R := by
  subst hds
  exact s1_forL I (fun k => (((I k).set i (.d (f1 (as.getD k default)))).set j (.d (f2 (as.getD k default)))).set l (.d (f3 (as.getD k default)))) ha h0 (fun k d hd => by
    obtain ⟨w, hw, rfl⟩ := lists_get hd
    rw [getD_at hw]
    exact gq_t (gqs_cons (gq_n i nd (hr k) hN hx hf) (gqs_cons (gq_n j nd (by rw [List.getElem?_set_ne hij]; exact hr2 k) hN2 hx2 hf2) (gqs_cons (gq_n l nd (by rw [List.getElem?_set_ne hjl, List.getElem?_set_ne hil]; exact hr3 k) hN3 hx3 hf3) gqs_nil hs3) hs2) hs1) hc hal hst) (fun k d hd => by
    obtain ⟨w, hw, rfl⟩ := lists_get hd
    rw [getD_at hw]
    exact hb k w hw) (by rw [List.length_map]; exact m) hp hc hfs
end
theorem sc_late2 {n : Int} {d : D} (h : Sc d) : ∀ x, x ∈ [D.int n, d] → Sc x := fun x hx => by
  rcases List.mem_cons.mp hx with rfl | hx
  · exact .int
  · have := List.mem_singleton.mp hx; subst this; exact h
theorem sc_one {n : Int} : ∀ x, x ∈ [D.int n] → Sc x := fun x hx => by
  have := List.mem_singleton.mp hx; subst this; exact .int
end DL

/-! Part 17: own objects with own lists; loans. -/
namespace DL
open PySem PySem.Spec PyProof.Rows L2
section
variable {K : PySem.W.Frag} {F : Fr} {G H : Hp} {r : List Slot} {t : L2.St}
/-- a slot lent and given back -/
theorem At.rep {i : Nat} {s : Slot} (A : At K F G r t H) (hi : r[i]? = some s) : ∃ v fp0, t[i]? = some v ∧ SlotOk K G H s v fp0 ∧ fp0.Nodup ∧ (∀ a, a ∈ fp0 → G a = none) ∧
    ∀ G' H' s' v' fp', Ok ⟨fp0, G, H⟩ G' H' → SlotOk K G' H' s' v' fp' → fp'.Nodup → (∀ a, a ∈ fp' → G' a = none ∧ (H a = none ∨ a ∈ fp0)) → At K F G' (r.set i s') (t.set i v') H' := by
  obtain ⟨k, fp, sl, nd, fr⟩ := A
  obtain ⟨v, fp1, fp0, fp2, a1, a2, a3, a4⟩ := sl.split hi
  have n1 : ∀ a, a ∈ fp1 ++ fp2 → a ∉ fp0 := fun a ha h0 => by
    rw [a2, List.nodup_append] at nd
    obtain ⟨_, m2, m3⟩ := nd
    rw [List.nodup_append] at m2
    rcases List.mem_append.mp ha with z | z
    · exact m3 a z a (List.mem_append_left _ h0) rfl
    · exact m2.2.2 a h0 a z rfl
  have mem : ∀ a, a ∈ fp1 ++ fp2 → a ∈ fp := fun a ha => by
    rw [a2]
    rcases List.mem_append.mp ha with z | z
    · exact List.mem_append_left _ z
    · exact List.mem_append_right _ (List.mem_append_right _ z)
  have mem0 : ∀ a, a ∈ fp0 → a ∈ fp := fun a ha => by rw [a2]; exact List.mem_append_right _ (List.mem_append_left _ ha)
  refine ⟨v, fp0, a1, a3, ?_, fun a ha => (fr a (mem0 a ha)).1, fun G' H' s' v' fp' ok q nd' n => ?_⟩
  · rw [a2, List.nodup_append] at nd
    exact (List.nodup_append.mp nd.2.1).1
  have keep : ∀ a o, a ∈ fp1 ++ fp2 → H a = some o → H' a = some o := fun a o ha q => ok.h a o q (n1 a ha)
  have no : ∀ x, x ∈ fp' → x ∉ fp1 ∧ x ∉ fp2 := fun x hx => by
    have z : x ∉ fp1 ++ fp2 := fun w => by
      rcases (n x hx).2 with c | c
      · exact sl.has x (mem x w) c
      · exact n1 x w c
    exact ⟨fun w => z (List.mem_append_left _ w), fun w => z (List.mem_append_right _ w)⟩
  have fH : ∀ a, H a = none → F.H a = none := fun a n => by
    cases z : F.H a with
    | none => rfl
    | some o => exact absurd n (k.ne (by rw [z]; exact fun w => by cases w))
  refine ⟨⟨k.g.trans ok.g, ok.gh, fun a o h nl => ?_, fun a h g => ok.nw a (k.ne h) (k.nw a h g), fun a ha => ?_⟩, _, a4 G' H' s' v' fp' ok.g keep q, nodup_mid (by rw [← a2]; exact nd) nd' no, fun a ha => ?_⟩
  · refine ok.h a o (k.h a o h nl) fun w => ?_
    rcases (fr a (mem0 a w)).2 with c | c
    · rw [c] at h; cases h
    · exact nl c
  · exact ok.ne (F := ⟨fp0, G, H⟩) (k.ln a ha)
  · have old : a ∈ fp1 ++ fp2 → G' a = none ∧ (F.H a = none ∨ a ∈ F.L) := fun w =>
      ⟨ok.nw a (sl.has a (mem a w)) (fr a (mem a w)).1, (fr a (mem a w)).2⟩
    rcases List.mem_append.mp ha with w | w
    · exact old (List.mem_append_left _ w)
    · rcases List.mem_append.mp w with w | w
      · refine ⟨(n a w).1, ?_⟩
        rcases (n a w).2 with c | c
        · exact .inl (fH a c)
        · exact (fr a (mem0 a c)).2
      · exact old (List.mem_append_right _ w)
theorem Ok.of_ext {L : List Addr} {G' H' : Hp} (e : Ext G H G' H') (hl : ∀ a, a ∈ L → H a ≠ none) : Ok ⟨L, G, H⟩ G' H' := ⟨e.g, e.gh, fun a o h _ => e.h a o h, e.nw, fun a ha => some_of e.h (hl a ha)⟩
/-- a change of what is lent -/
theorem Ok.upd {L : List Addr} {G' H' : Hp} {p : Addr} {o : HO} (k : Ok ⟨L, G, H⟩ G' H') (hp : p ∈ L) (g : G' p = none) : Ok ⟨L, G, H⟩ G' (L2.upd H' p o) :=
  ⟨k.g, fun a u q => by rw [upd_ne (ne_of_none q g)]; exact k.gh a u q, fun a u q nl => by
    have ne : a ≠ p := fun c => nl (by rw [c]; exact hp)
    rw [upd_ne ne]; exact k.h a u q nl, k.nw, fun a ha => by
    by_cases c : a = p
    · rw [c, upd_same]; exact fun z => by cases z
    · rw [upd_ne c]; exact k.ln a ha⟩
def Fld.toD : Fld → D
  | .d x => x
  | .o xs => .lst xs
theorem FldOk.toD {x : Fld} {v : V} {fp : List Addr} (e : Same G H) (h : FldOk K G H x v fp) : Dt K H v x.toD := by
  cases x with
  | d x => exact Dt.mono e _ _ h.2
  | o xs => obtain ⟨p, vs, rfl, _, k, da⟩ := h; exact .lst k (DtAll.mono e _ _ da)
theorem FldsOk.toD {fs : List (Str × Fld)} {vs : List (Str × V)} {fp : List Addr} (e : Same G H) (h : FldsOk K G H fs vs fp) : ∃ ws, vs = (fs.map Prod.fst).zip ws ∧ ws.length = (fs.map Prod.fst).length ∧ DtAll K H ws (fs.map fun z => z.2.toD) := by
  induction h with
  | nil => exact ⟨[], rfl, rfl, .nil⟩
  | cons h1 _ ih =>
    obtain ⟨ws, rfl, l, k⟩ := ih
    exact ⟨_ :: ws, rfl, by simp at l ⊢; exact l, .cons (h1.toD e) k⟩
end
section
variable {X : Cx} {r : List Slot} {qa : Option Addr} {C : Addr} {fs : List (Str × Fld)} {x : Str} {px : Pos}
/-- an own object looked at -/
theorem pb_ob (i : Nat) (h : r[i]? = some (.ob qa C fs) := by rfl) (hN : X.N[i]? = some x := by rfl) (hv : Vis X.env.scope x := by first | exact Or.inl rfl | exact Or.inr (Or.inl rfl) | exact Or.inr (Or.inr rfl)) (hd : (x == ("__debug__" : Str)) = false := by decide)
    (hcd : (x == ("__classdict__" : Str)) = false := by decide) : PB X r (.Name x px) (.ins C (fs.map Prod.fst) (fs.map fun z => z.2.toD)) := fun F G t H A Q q => by
  obtain ⟨v, fp0, h1, ⟨p, dx, vs, fps, rfl, rfl, k1, k2, hq⟩, _⟩ := A.rep h
  obtain ⟨ws, rfl, l, da⟩ := k2.toD A.gh
  exact oE (pe_var hN hv hd hcd) ⟨_, h1, q _ G H (Ext.refl A.gh) (.ins k1 l da)⟩
end
/-! ### fields -/
def putFl (f : Str) (x : Fld) : List (Str × Fld) → List (Str × Fld)
  | [] => [(f, x)]
  | (g, y) :: r => if g = f then (g, x) :: r else (g, y) :: putFl f x r
theorem putF_self {f : Str} {v : V} : ∀ {vs : List (Str × V)}, vs.lookup f = some v → putF f v vs = vs
  | [], h => by cases h
  | (g, w) :: vs, h => by
    unfold putF
    by_cases c : g = f
    · rw [if_pos c]
      rw [List.lookup_cons, c, beq_self_eq_true] at h
      cases h; rfl
    · rw [if_neg c]
      rw [List.lookup_cons, (beq_eq_false_iff_ne.mpr fun e => c e.symm)] at h
      rw [putF_self h]
section
variable {K : PySem.W.Frag} {F : Fr} {G H : Hp} {r : List Slot} {t : L2.St} {qa : Option Addr} {C : Addr} {f : Str}
theorem FldsOk.put {fs : List (Str × Fld)} {vs : List (Str × V)} {fp : List Addr} (h : FldsOk K G H fs vs fp) (f : Str) : ∃ fp1 fp0 fp2, fp = fp1 ++ (fp0 ++ fp2) ∧ (∀ x, fs.lookup f = some x → ∃ v, vs.lookup f = some v ∧ FldOk K G H x v fp0) ∧
    ∀ G' H' x' v' fp', Same G G' → (∀ a o, a ∈ fp1 ++ fp2 → H a = some o → H' a = some o) → FldOk K G' H' x' v' fp' → FldsOk K G' H' (putFl f x' fs) (putF f v' vs) (fp1 ++ (fp' ++ fp2)) := by
  induction h with
  | nil =>
    refine ⟨[], [], [], rfl, (fun x h => by cases h), fun G' H' x' v' fp' _ _ q => ?_⟩
    have := FldsOk.cons (n := f) q (FldsOk.nil (K := K) (G := G') (H := H'))
    exact this
  | @cons n x v fp fps fs vs h1 h2 ih =>
    by_cases c : n = f
    · refine ⟨[], fp, fps, rfl, fun y hy => ?_, fun G' H' x' v' fp' e k q => ?_⟩
      · rw [List.lookup_cons, c, beq_self_eq_true] at hy
        cases hy
        exact ⟨v, by rw [List.lookup_cons, c, beq_self_eq_true], h1⟩
      · unfold putFl putF
        rw [if_pos c, if_pos c]
        show FldsOk K G' H' _ _ (fp' ++ fps)
        exact .cons q (h2.frame e fun a o ha => k a o ha)
    · obtain ⟨f1, f0, f2, e0, a, b⟩ := ih
      have cb : (f == n) = false := beq_eq_false_iff_ne.mpr fun e => c e.symm
      refine ⟨fp ++ f1, f0, f2, by rw [e0, List.append_assoc], fun y hy => ?_, fun G' H' x' v' fp' e k q => ?_⟩
      · rw [List.lookup_cons, cb] at hy
        obtain ⟨w, hw, kw⟩ := a y hy
        exact ⟨w, by rw [List.lookup_cons, cb]; exact hw, kw⟩
      · unfold putFl putF
        rw [if_neg c, if_neg c, List.append_assoc]
        exact .cons (h1.frame e fun a o ha => k a o (List.mem_append_left _ (List.mem_append_left _ ha))) (b G' H' x' v' fp' e (fun a o ha => k a o (by
          rcases List.mem_append.mp ha with w | w
          · exact List.mem_append_left _ (List.mem_append_right _ w)
          · exact List.mem_append_right _ w)) q)
/-- an own list in a field, changed -/
theorem At.updF {i : Nat} {fs : List (Str × Fld)} {xs : List D} (A : At K F G r t H) (hi : r[i]? = some (.ob qa C fs)) (hf : fs.lookup f = some (.o xs)) : ∃ p dx vs l ws, t[i]? = some (some (.ref p)) ∧ H p = some (.ins C dx vs) ∧ vs.lookup f = some (.ref l) ∧ H l = some (.lst ws) ∧ DtAll K G ws xs ∧
    ∀ G' H' ws' ys, Ext G H G' H' → DtAll K G' ws' ys → At K F G' (r.set i (.ob qa C (putFl f (.o ys) fs))) t (L2.upd H' l (.lst ws')) := by
  obtain ⟨v, fp0, h1, so, nd, gn, kk⟩ := A.rep hi
  have has := so.has
  obtain ⟨p, dx, vs, fps, rfl, rfl, hp, fk, hq⟩ := so
  obtain ⟨f1, f0, f2, e0, ha, hb⟩ := fk.put f
  obtain ⟨v, hv, l, ws, rfl, rfl, hl, da⟩ := ha _ hf
  refine ⟨p, dx, vs, l, ws, h1, hp, hv, hl, da, fun G' H' ws' ys e da' => ?_⟩
  have ml : l ∈ p :: fps := by rw [e0]; simp
  have nd2 := nd
  rw [e0, List.nodup_cons, List.nodup_append] at nd2
  obtain ⟨np, n1, n2, n3⟩ := nd2
  rw [List.singleton_append, List.nodup_cons] at n2
  have pl : p ≠ l := fun c => np (by rw [c]; simp)
  have gl : G' l = none := e.nw l (has l ml) (gn l ml)
  have hset : t.set i (some (.ref p)) = t := by
    obtain ⟨hlt, he⟩ := List.getElem?_eq_some_iff.mp h1
    rw [← he]; exact List.set_getElem_self hlt
  have z := kk G' (L2.upd H' l (.lst ws')) (.ob qa C (putFl f (.o ys) fs)) (some (.ref p)) (p :: (f1 ++ ([l] ++ f2))) ((Ok.of_ext e has).upd ml gl)
    ⟨p, dx, vs, _, rfl, rfl, by rw [upd_ne pl]; exact e.h _ _ hp, by
      have := hb G' (L2.upd H' l (.lst ws')) (.o ys) (.ref l) [l] e.g (fun a o ma q => by
        have ne : a ≠ l := fun c => by
          rcases List.mem_append.mp ma with w | w
          · exact n3 a w l (by simp) c
          · exact n2.1 (c ▸ w)
        rw [upd_ne ne]; exact e.h a o q) ⟨l, ws', rfl, rfl, upd_same, da'⟩
      rw [putF_self hv] at this
      exact this, hq⟩ (by rw [← e0]; exact nd) (fun a ma => by
        rw [← e0] at ma
        exact ⟨e.nw a (has a ma) (gn a ma), .inr ma⟩)
  rw [hset] at z
  exact z
/-- a field set -/
theorem At.setF {i : Nat} {fs : List (Str × Fld)} (f : Str) (A : At K F G r t H) (hi : r[i]? = some (.ob qa C fs)) : ∃ p dx vs, t[i]? = some (some (.ref p)) ∧ H p = some (.ins C dx vs) ∧ vs.length = fs.length ∧
    ∀ G' H' x' v' fp', Ext G H G' H' → FldOk K G' H' x' v' fp' → fp'.Nodup → (∀ a, a ∈ fp' → H a = none ∧ G' a = none) → At K F G' (r.set i (.ob qa C (putFl f x' fs))) t (L2.upd H' p (.ins C dx (putF f v' vs))) := by
  obtain ⟨v, fp0, h1, so, nd, gn, kk⟩ := A.rep hi
  have has := so.has
  obtain ⟨p, dx, vs, fps, rfl, rfl, hp, fk, hq⟩ := so
  have hlen : vs.length = fs.length := by
    clear kk hp has nd gn h1 A hi
    induction fk with
    | nil => rfl
    | cons _ _ ih => simp [ih]
  obtain ⟨f1, f0, f2, e0, ha, hb⟩ := fk.put f
  refine ⟨p, dx, vs, h1, hp, hlen, fun G' H' x' v' fp' e q nd' n => ?_⟩
  have mp : p ∈ p :: fps := by simp
  have gp : G' p = none := e.nw p (has p mp) (gn p mp)
  have hset : t.set i (some (.ref p)) = t := by
    obtain ⟨hlt, he⟩ := List.getElem?_eq_some_iff.mp h1
    rw [← he]; exact List.set_getElem_self hlt
  have sub : ∀ a, a ∈ f1 ++ f2 → a ∈ fps := fun a ma => by
    rw [e0]
    rcases List.mem_append.mp ma with w | w
    · exact List.mem_append_left _ w
    · exact List.mem_append_right _ (List.mem_append_right _ w)
  have nd2 := List.nodup_cons.mp nd
  have nf : ∀ a, a ∈ fp' → a ∉ p :: fps := fun a ma mb => has a mb (n a ma).1
  have nm : (f1 ++ (fp' ++ f2)).Nodup := nodup_mid (b := f0) (by rw [← e0]; exact nd2.2) nd' fun x hx => ⟨fun w => nf x hx (List.mem_cons_of_mem _ (sub x (List.mem_append_left _ w))), fun w => nf x hx (List.mem_cons_of_mem _ (sub x (List.mem_append_right _ w)))⟩
  have z := kk G' (L2.upd H' p (.ins C dx (putF f v' vs))) (.ob qa C (putFl f x' fs)) (some (.ref p)) (p :: (f1 ++ (fp' ++ f2))) ((Ok.of_ext e has).upd mp gp)
    ⟨p, dx, _, _, rfl, rfl, upd_same, hb G' _ x' v' fp' e.g (fun a o ma q => by
      have ne : a ≠ p := fun c => nd2.1 (c ▸ sub a ma)
      rw [upd_ne ne]; exact e.h a o q) (q.frame (Same.refl _) fun a o ma w => by
      have ne : a ≠ p := fun c => nf a ma (c ▸ mp)
      rw [upd_ne ne]; exact w), hq⟩ (by
      rw [List.nodup_cons]
      refine ⟨fun w => ?_, nm⟩
      rcases List.mem_append.mp w with w | w
      · exact nd2.1 (sub p (List.mem_append_left _ w))
      · rcases List.mem_append.mp w with w | w
        · exact nf p w mp
        · exact nd2.1 (sub p (List.mem_append_right _ w))) (fun a ma => by
      rcases List.mem_cons.mp ma with w | w
      · rw [w]; exact ⟨gp, .inr mp⟩
      · have old : a ∈ f1 ++ f2 → G' a = none ∧ (H a = none ∨ a ∈ p :: fps) := fun w => by
          have m2 := List.mem_cons_of_mem p (sub a w)
          exact ⟨e.nw a (has a m2) (gn a m2), .inr m2⟩
        rcases List.mem_append.mp w with w | w
        · exact old (List.mem_append_left _ w)
        · rcases List.mem_append.mp w with w | w
          · exact ⟨(n a w).2, .inl (n a w).1⟩
          · exact old (List.mem_append_right _ w))
  rw [hset] at z
  exact z
end
end DL

/-! Part 18: statements on own objects. -/
namespace DL
open PySem PySem.Spec PyProof.Rows L2
section
variable {X : Cx} {r : List Slot} {e b : Expr} {pos p px pf apos : Pos} {d : D} {xs : List D} {qa : Option Addr} {C : Addr} {fs fs' : List (Str × Fld)} {x f : Str} {rest : List Stmt} {N : List Slot → Prop} {R : Slot → List Slot → Prop}
/-- o.f = e -/
theorem hs_setD (i : Nat) (he : PP X r e d) (c : Cls X.K C) (na : NoAttr X.K C f) (k : HS X (r.set i (.ob qa C fs')) rest N R) (hr : r[i]? = some (.ob qa C fs) := by rfl) (hp : putFl f (.d d) fs = fs' := by rfl) (hl : fs.length < 1000 := by decide) (hN : X.N[i]? = some x := by rfl)
    (hv : Vis X.env.scope x := by first | exact Or.inl rfl | exact Or.inr (Or.inl rfl) | exact Or.inr (Or.inr rfl)) (hd : (x == ("__debug__" : Str)) = false := by decide) (hcd : (x == ("__classdict__" : Str)) = false := by decide) (hs : swapsWith e (some (.Attribute (.Name x px) f p)) pos.line X.env = pure false := by rfl) :
    HS X r (.Assign [.Attribute (.Name x px) f p] e pos :: rest) N R :=
  hs_cons (M := fun r' => r' = r.set i (.ob qa C fs')) (fun F G t H nl A D n q => by
    refine oS (ps_fld (pe_var hN hv hd hcd) cE hs) (he F G t H A _ fun v G1 H1 e1 k1 => ?_)
    obtain ⟨pa, dx, vs, h1, h2, h3, h4⟩ := (A.ext e1).setF f hr
    subst hp
    exact ⟨_, h1, pa, C, dx, vs, rfl, h2, c, na, by rw [h3]; exact hl, n _ G1 t _ rfl (h4 G1 H1 (.d d) v [] (Ext.refl e1.gh) ⟨rfl, k1⟩ .nil fun a ha => by cases ha)⟩) fun _ e => e ▸ k
theorem hs_setO (i : Nat) (he : PO X r e xs) (c : Cls X.K C) (na : NoAttr X.K C f) (k : HS X (r.set i (.ob qa C fs')) rest N R) (hr : r[i]? = some (.ob qa C fs) := by rfl) (hp : putFl f (.o xs) fs = fs' := by rfl) (hl : fs.length < 1000 := by decide) (hN : X.N[i]? = some x := by rfl)
    (hv : Vis X.env.scope x := by first | exact Or.inl rfl | exact Or.inr (Or.inl rfl) | exact Or.inr (Or.inr rfl)) (hd : (x == ("__debug__" : Str)) = false := by decide) (hcd : (x == ("__classdict__" : Str)) = false := by decide) (hs : swapsWith e (some (.Attribute (.Name x px) f p)) pos.line X.env = pure false := by rfl) :
    HS X r (.Assign [.Attribute (.Name x px) f p] e pos :: rest) N R :=
  hs_cons (M := fun r' => r' = r.set i (.ob qa C fs')) (fun F G t H nl A D n q => by
    refine oS (ps_fld (pe_var hN hv hd hcd) cE hs) (he F G t H A _ fun l ws G1 H1 e1 nl g kl da => ?_)
    obtain ⟨pa, dx, vs, h1, h2, h3, h4⟩ := A.setF f hr
    subst hp
    exact ⟨_, h1, pa, C, dx, vs, rfl, e1.h _ _ h2, c, na, by rw [h3]; exact hl, n _ G1 t _ rfl (h4 G1 H1 (.o xs) (.ref l) [l] e1 ⟨l, ws, rfl, rfl, kl, da⟩ (by simp) fun a ha => by
      have : a = l := by simpa using ha
      rw [this]; exact ⟨nl, g⟩)⟩) fun _ e => e ▸ k
/-- o.f.append(e) -/
theorem hs_appF (i : Nat) (he : PP X r e d) (c : Cls X.K C) (na : NoAttr X.K C f) (hz : xs.length < sizeLine) (k : HS X (r.set i (.ob qa C fs')) rest N R) (hr : r[i]? = some (.ob qa C fs) := by rfl) (hf : fs.lookup f = some (.o xs) := by rfl) (hp : putFl f (.o (xs ++ [d])) fs = fs' := by rfl) (hN : X.N[i]? = some x := by rfl)
    (hv : Vis X.env.scope x := by first | exact Or.inl rfl | exact Or.inr (Or.inl rfl) | exact Or.inr (Or.inr rfl)) (hd : (x == ("__debug__" : Str)) = false := by decide) (hcd : (x == ("__classdict__" : Str)) = false := by decide)
    (hb : attributeBase (.Name x px) f X.env (eval (.Name x px) X.env) = eval (.Name x px) X.env := by rfl)
    (hsw : swapsWith (.Call (.Attribute (.Attribute (.Name x px) f pf) "append" apos) [e] [] p) none pos.line X.env = pure false := by rfl)
    (hpe : ∀ {to : TE} {t : TA}, PE X (.Attribute (.Name x px) f pf) to → PA X [e] t → PE X (.Call (.Attribute (.Attribute (.Name x px) f pf) "append" apos) [e] [] p) (tBM X.K "list" rAppend to t) := by exact fun ho ha => pe_bm PySem.F.plainAttrs_list PySem.F.slot_list_append PySem.F.type_list_append mt_append ho ha)
    (hs : starEach [e] X.env = (false, eval e X.env) :: starEach [] X.env := by rfl) : HS X r (.Expr (.Call (.Attribute (.Attribute (.Name x px) f pf) "append" apos) [e] [] p) pos :: rest) N R :=
  hs_cons (M := fun r' => r' = r.set i (.ob qa C fs')) (fun F G t H nl A D n q => by
    obtain ⟨pa, dx, vs, l, ws, h1, h2, h3, h4, h5, h6⟩ := A.updF hr hf
    subst hp
    refine oS (ps_expr (hpe (pe_fld (pe_var hN hv hd hcd) hb) cA) hsw) ⟨_, h1, pa, C, dx, vs, .ref l, rfl, h2, c, na, h3, .inl ⟨rfl, ws, SqL.of h4⟩, aq_cons he aq_nil hs F G t H A _ fun us G' H' ee kk => ?_⟩
    cases kk with
    | cons k1 k2 =>
      cases k2
      exact ⟨l, ws, _, rfl, rfl, ee.h _ _ h4, by rw [h5.len]; exact hz, n _ G' t _ rfl (h6 G' H' _ _ ee ((DtAll.mono ee.g _ _ h5).app (.cons k1 .nil)))⟩) fun _ e => e ▸ k
/-- o.f.pop() -/
theorem hs_popF (i : Nat) (c : Cls X.K C) (na : NoAttr X.K C f) (hne : xs ≠ []) (k : HS X (r.set i (.ob qa C fs')) rest N R) (hr : r[i]? = some (.ob qa C fs) := by rfl) (hf : fs.lookup f = some (.o xs) := by rfl) (hp : putFl f (.o xs.dropLast) fs = fs' := by rfl) (hN : X.N[i]? = some x := by rfl)
    (hv : Vis X.env.scope x := by first | exact Or.inl rfl | exact Or.inr (Or.inl rfl) | exact Or.inr (Or.inr rfl)) (hd : (x == ("__debug__" : Str)) = false := by decide) (hcd : (x == ("__classdict__" : Str)) = false := by decide)
    (hb : attributeBase (.Name x px) f X.env (eval (.Name x px) X.env) = eval (.Name x px) X.env := by rfl)
    (hsw : swapsWith (.Call (.Attribute (.Attribute (.Name x px) f pf) "pop" apos) [] [] p) none pos.line X.env = pure false := by rfl)
    (hpe : ∀ {to : TE}, PE X (.Attribute (.Name x px) f pf) to → PE X (.Call (.Attribute (.Attribute (.Name x px) f pf) "pop" apos) [] [] p) (tBM0 X.K "list" rPop to) := by exact fun ho => pe_bm0 PySem.F.plainAttrs_list PySem.F.slot_list_pop PySem.F.type_list_pop mt_pop ho) :
    HS X r (.Expr (.Call (.Attribute (.Attribute (.Name x px) f pf) "pop" apos) [] [] p) pos :: rest) N R :=
  hs_cons (M := fun r' => r' = r.set i (.ob qa C fs')) (fun F G t H nl A D n q => by
    obtain ⟨pa, dx, vs, l, ws, h1, h2, h3, h4, h5, h6⟩ := A.updF hr hf
    subst hp
    have hl := h5.len
    have hpos : 0 < xs.length := List.length_pos_iff.mpr hne
    refine oS (ps_expr (hpe (pe_fld (pe_var hN hv hd hcd) hb)) hsw) ⟨_, h1, pa, C, dx, vs, .ref l, rfl, h2, c, na, h3, .inl ⟨rfl, ws, SqL.of h4⟩, l, ws, ws[ws.length - 1]'(by omega), rfl, rfl, h4, List.getElem?_eq_getElem _, n _ G t _ rfl (h6 G H _ _ (Ext.refl A.gh) h5.dropLast)⟩) fun _ e => e ▸ k
/-- o.f[z] = e -/
theorem hs_putF {z : Int} {jx : Nat} (i : Nat) (he : PP X r e d) (hi : PB X r b (.int z)) (c : Cls X.K C) (na : NoAttr X.K C f) (hx : ixN xs.length z = some jx) (k : HS X (r.set i (.ob qa C fs')) rest N R) (hr : r[i]? = some (.ob qa C fs) := by rfl) (hf : fs.lookup f = some (.o xs) := by rfl) (hp : putFl f (.o (xs.set jx d)) fs = fs' := by rfl) (hN : X.N[i]? = some x := by rfl)
    (hv : Vis X.env.scope x := by first | exact Or.inl rfl | exact Or.inr (Or.inl rfl) | exact Or.inr (Or.inr rfl)) (hd : (x == ("__debug__" : Str)) = false := by decide) (hcd : (x == ("__classdict__" : Str)) = false := by decide)
    (hb : attributeBase (.Name x px) f X.env (eval (.Name x px) X.env) = eval (.Name x px) X.env := by rfl)
    (hpg : ∀ {to ti : TE} {t : TSet}, PE X (.Attribute (.Name x px) f pf) to → PE X b ti → PSet X t → PG X (.Subscript (.Attribute (.Name x px) f pf) b p) (gSub to ti t) := by exact fun ho hi hs => pg_sub ho hi hs)
    (hs : swapsWithSole [.Subscript (.Attribute (.Name x px) f pf) b p] e pos.line X.env = pure false := by rfl) (hw : swappedStores [.Subscript (.Attribute (.Name x px) f pf) b p] e X.env = pure none := by rfl) (h1 : (assignEach [.Subscript (.Attribute (.Name x px) f pf) b p] X.env).map (·.2) = [assign (.Subscript (.Attribute (.Name x px) f pf) b p) X.env] := by rfl) :
    HS X r (.Assign [.Subscript (.Attribute (.Name x px) f pf) b p] e pos :: rest) N R :=
  hs_cons (M := fun r' => r' = r.set i (.ob qa C fs')) (fun F G t H nl A D n q => by
    obtain ⟨pa, dx, vs, l, ws, g1, g2, g3, g4, g5, g6⟩ := A.updF hr hf
    subst hp
    refine oS (ps_asg cE (hpg (pe_fld (pe_var hN hv hd hcd) hb) cE set_list) hs hw h1) (he F G t H A _ fun v G1 H1 e1 k1 => ⟨_, g1, pa, C, dx, vs, .ref l, rfl, e1.h _ _ g2, c, na, g3, hi F G1 t H1 (A.ext e1) _ fun w G2 H2 e2 k2 => ?_⟩)
    cases k2
    have e := e1.trans e2
    exact ⟨l, ws, z, jx, rfl, rfl, e.h _ _ g4, by rw [g5.len]; exact hx, n _ G2 t _ rfl (g6 G2 H2 _ _ e (DtAll.set (Dt.mono e2.g _ _ k1) jx (DtAll.mono e.g _ _ g5)))⟩) fun _ e => e ▸ k
/-- o.f[z] += e -/
theorem hs_augF {n m z : Int} (i : Nat) {jx : Nat} (hi : PB X r b (.int z)) (he : PB X r e (.int m)) (c : Cls X.K C) (na : NoAttr X.K C f) (h0 : 0 ≤ z) (hx : ixN xs.length z = some jx) (hat : atI xs z = some (.int n)) (k : HS X (r.set i (.ob qa C fs')) rest N R) (hr : r[i]? = some (.ob qa C fs) := by rfl) (hf : fs.lookup f = some (.o xs) := by rfl)
    (hp : putFl f (.o (xs.set jx (.int (n + m)))) fs = fs' := by rfl) (hN : X.N[i]? = some x := by rfl)
    (hv : Vis X.env.scope x := by first | exact Or.inl rfl | exact Or.inr (Or.inl rfl) | exact Or.inr (Or.inr rfl)) (hd : (x == ("__debug__" : Str)) = false := by decide) (hcd : (x == ("__classdict__" : Str)) = false := by decide)
    (hb : attributeBase (.Name x px) f X.env (eval (.Name x px) X.env) = eval (.Name x px) X.env := by rfl)
    (ha : ∀ ov iv new, augStore b ov iv new = (do holding [new, ov, iv] (setItem ov iv new); release [new, ov, iv] []; pure .next) := by intros; rfl) :
    HS X r (.AugAssign (.Subscript (.Attribute (.Name x px) f pf) b p) .Add e pos :: rest) N R :=
  hs_cons (M := fun r' => r' = r.set i (.ob qa C fs')) (fun F G t H nl A D nx q => by
    obtain ⟨pa, dx, vs, l, ws, g1, g2, g3, g4, g5, g6⟩ := A.updF hr hf
    subst hp
    refine oS (ps_augS (pe_fld (pe_var hN hv hd hcd) hb) cE get_list cE ip_add set_list ha) ⟨_, g1, pa, C, dx, vs, .ref l, rfl, g2, c, na, g3, hi F G t H A _ fun v G1 H1 e1 k1 => ?_⟩
    cases k1
    obtain ⟨w, hw, kw⟩ := dt_at g5 hat
    cases kw
    refine ⟨l, ws, z, _, rfl, rfl, SqL.of (e1.h _ _ g4), h0, hw, he F G1 t H1 (A.ext e1) _ fun v2 G2 H2 e2 k2 => ?_⟩
    cases k2
    have ee := e1.trans e2
    exact ⟨n, m, rfl, rfl, l, ws, z, jx, rfl, rfl, ee.h _ _ g4, by rw [g5.len]; exact hx, nx _ G2 t _ rfl (g6 G2 H2 _ _ ee (DtAll.set (.int _) jx (DtAll.mono ee.g _ _ g5)))⟩) fun _ e => e ▸ k
end
end DL

/-! Part 19: methods that change their object; objects made by such an __init__. -/
namespace DL
open PySem PySem.Spec PyProof.Rows L2
/-- the heap without some addresses -/
def cut (H : Hp) (L : List Addr) : Hp := fun a => if a ∈ L then none else H a
theorem cut_in {H : Hp} {L : List Addr} {a : Addr} (h : a ∈ L) : cut H L a = none := if_pos h
theorem cut_out {H : Hp} {L : List Addr} {a : Addr} (h : a ∉ L) : cut H L a = H a := if_neg h
theorem cut_some {H : Hp} {L : List Addr} {a : Addr} {o : HO} (h : cut H L a = some o) : a ∉ L ∧ H a = some o := by
  by_cases c : a ∈ L
  · rw [cut_in c] at h; cases h
  · rw [cut_out c] at h; exact ⟨c, h⟩
theorem cut_none {H : Hp} {L : List Addr} {a : Addr} (h : cut H L a = none) : a ∈ L ∨ H a = none := by
  by_cases c : a ∈ L
  · exact .inl c
  · rw [cut_out c] at h; exact .inr h
/-- the contract of a method that changes its object: fields before, arguments, what is handed back, fields after -/
abbrev CtL := List (Str × Fld) → List D → Slot → List (Str × Fld) → Prop
def RetL (K : PySem.W.Frag) (F : Fr) (p C : Addr) (s : Slot) (fs' : List (Str × Fld)) (v : V) (H' : Hp) : Prop := ∃ r' t' G', At K F G' (s :: .ob (some p) C fs' :: r') (some v :: t') H'
def spL (K : PySem.W.Frag) (C : Addr) (Cl : CtL) : Sp := fun vs H Q _ => ∃ G p dx fvs fps ws ds fs s fs', vs = .ref p :: ws ∧ H p = some (.ins C dx fvs) ∧ Same G H ∧ FldsOk K G H fs fvs fps ∧ (p :: fps).Nodup ∧ (∀ a, a ∈ p :: fps → G a = none) ∧ DtAll K G ws ds ∧ Cl fs ds s fs' ∧
  ∀ v H', RetL K ⟨[], G, cut H (p :: fps)⟩ p C s fs' v H' → Q v H'
/-- the state at the entry of such a method -/
abbrev entryL (N : List Str) (p C : Addr) (fs : List (Str × Fld)) (ds : List D) : List Slot := .ob (some p) C fs :: (ds.map Slot.d ++ List.replicate (N.length - (ds.length + 1)) Slot.un)
section
variable {P : Program} {w : World} {K : PySem.W.Frag} {mg : Str → Option Value} {base : Heap}
theorem fn_bodyL {qual : Str} {sc : Scope} {f : Addr} {N : List Str} {body : List Stmt} {k : Nat} {C : Addr} {Cl : CtL}
    (hb : ∀ fs ds s fs', Cl fs ds s fs' → ∀ p cdv A outer s0 H E, Room k (A.deeper (envOfC qual sc s0.heap.objs.size f cdv)) →
      HS (cx0 P w K mg base N qual sc f cdv A outer s0 H E) (entryL N p C fs ds) body (fun r' => s = .d .non ∧ r'[0]? = some (.ob (some p) C fs')) (fun s' r' => s' = s ∧ r'[0]? = some (.ob (some p) C fs')))
    (cdv : Value) (A : Around) (outer : List Env) (s : Shared) (H : Hp) (vs : List V) (Q : VK) (E : XK) (hr : Room k (A.deeper (envOfC qual sc s.heap.objs.size f cdv))) (h : spL K C Cl vs H Q E) :
    ∃ t, PSs (cx0 P w K mg base N qual sc f cdv A outer s H E) body t ∧ t { nx := fun _ H' => Q .non H', rt := Q } (L2.start N vs) H := by
  obtain ⟨G, p, dx, fvs, fps, ws, ds, fs, sl, fs', rfl, hp, gh, fk, nd, gn, da, c, q⟩ := h
  refine ⟨_, cSs, hb fs ds sl fs' c p cdv A outer s H E hr ⟨[], G, cut H (p :: fps)⟩ G (L2.start N (.ref p :: ws)) H rfl ?_ _ (fun r' G' t' H' e A' => ?_) fun s' r' v t' G' H' e A' => ?_⟩
  · refine ⟨⟨Same.refl G, gh, fun a o q _ => (cut_some q).2, fun _ _ q => q, fun _ z => by cases z⟩, p :: fps, ?_, nd, fun a ha => ⟨gn a ha, .inl (cut_in ha)⟩⟩
    have e : L2.start N (.ref p :: ws) = some (V.ref p) :: (ws.map some ++ List.replicate (N.length - (ds.length + 1)) none) := by
      unfold L2.start
      rw [List.map_cons, List.length_cons, da.len]; rfl
    rw [e]
    have z := Slots.cons (K := K) (G := G) (H := H) (s := .ob (some p) C fs) (v := some (.ref p)) (fp := p :: fps) ⟨p, dx, fvs, fps, rfl, rfl, hp, fk, fun a e => by cases e; rfl⟩ (slots_start (N.length - (ds.length + 1)) da)
    rw [List.append_nil] at z
    exact z
  · obtain ⟨rfl, e⟩ := e
    match r', e with
    | s0 :: r', e =>
      cases e
      exact q .non H' ⟨r', t', G', A'.front .non⟩
  · obtain ⟨rfl, e⟩ := e
    match r', e with
    | s0 :: r', e =>
      cases e
      exact q v H' ⟨r', t', G', A'⟩
/-- a method that changes its object -/
structure HasL (P : Program) (w : World) (K : PySem.W.Frag) (mg : Str → Option Value) (base : Heap) (k : Nat) (C : Addr) (m : Str) (Cl : CtL) : Prop where
  ex : ∃ f fd ps, Cls K C ∧ Meth K C m f ∧ FnOk P w K mg base CX0 k f fd ps (spL K C Cl) ∧ Binds K fd ps []
theorem HasL.mono {j k : Nat} {C : Addr} {m : Str} {Cl : CtL} (h : HasL P w K mg base j C m Cl) (l : j ≤ k) : HasL P w K mg base k C m Cl := by
  obtain ⟨f, fd, ps, c, mt, F, b⟩ := h
  exact ⟨f, fd, ps, c, mt, F.mono l, b⟩
theorem fn_okL {x q : Str} {st : Stmt} {f : Addr} {fd : FuncData} {N ps : List Str} {k : Nat} {C : Addr} {Cl : CtL} (Fn : Fun K x q st f fd) (S : FnScope N ps (defScope st)) (hl : ∀ fs ds s fs', Cl fs ds s fs' → ds.length + 1 = ps.length)
    (hb : ∀ fs ds s fs', Cl fs ds s fs' → ∀ p cdv A outer s0 H E, Room k (A.deeper (envOfC q (defScope st) s0.heap.objs.size f cdv)) →
      HS (cx0 P w K mg base N q (defScope st) f cdv A outer s0 H E) (entryL N p C fs ds) (defBody st) (fun r' => s = .d .non ∧ r'[0]? = some (.ob (some p) C fs')) (fun s' r' => s' = s ∧ r'[0]? = some (.ob (some p) C fs'))) : FnOk P w K mg base CX0 (k + 1) f fd ps (spL K C Cl) :=
  Fn.ok S (fun vs H Q E h => by
    obtain ⟨G, p, dx, fvs, fps, ws, ds, fs, sl, fs', rfl, hp, gh, fk, nd, gn, da, c, q⟩ := h
    rw [List.length_cons, da.len]
    exact hl fs ds sl fs' c) (fn_bodyL hb)
theorem has_methL {C : Addr} {m q : Str} {st : Stmt} {ps N : List Str} {k : Nat} {Cl : CtL} (T : Dm K C m q st ps) (S : FnScope N ps (defScope st)) (hl : ∀ fs ds s fs', Cl fs ds s fs' → ds.length + 1 = ps.length)
    (hb : ∀ fs ds s fs', Cl fs ds s fs' → ∀ p f cdv A outer s0 H E, Room k (A.deeper (envOfC q (defScope st) s0.heap.objs.size f cdv)) →
      HS (cx0 P w K mg base N q (defScope st) f cdv A outer s0 H E) (entryL N p C fs ds) (defBody st) (fun r' => s = .d .non ∧ r'[0]? = some (.ob (some p) C fs')) (fun s' r' => s' = s ∧ r'[0]? = some (.ob (some p) C fs'))) : HasL P w K mg base (k + 1) C m Cl := by
  obtain ⟨f, fd, F, c, mt, b⟩ := T
  exact ⟨f, fd, ps, c, mt, fn_okL F S hl fun fs ds s fs' c p => hb fs ds s fs' c p f, b⟩
/-- an __init__ of the text that sets its object's fields -/
structure HasN (P : Program) (w : World) (K : PySem.W.Frag) (mg : Str → Option Value) (base : Heap) (k : Nat) (x : Str) (C : Addr) (Cl : CtL) : Prop where
  ex : ∃ f fd ps, Mk K C f ∧ mg x = some (.ref C) ∧ FnOk P w K mg base CX0 k f fd ps (spL K C Cl) ∧ Binds K fd ps []
theorem HasN.mono {j k : Nat} {C : Addr} {x : Str} {Cl : CtL} (h : HasN P w K mg base j x C Cl) (l : j ≤ k) : HasN P w K mg base k x C Cl := by
  obtain ⟨f, fd, ps, c, mt, F, b⟩ := h
  exact ⟨f, fd, ps, c, mt, F.mono l, b⟩
theorem has_init {x q : Str} {C : Addr} {st : Stmt} {ps N ns : List Str} {k : Nat} {Cl : CtL} (T : Di K mg x q C st ps ns) (S : FnScope N ps (defScope st)) (hl : ∀ fs ds s fs', Cl fs ds s fs' → ds.length + 1 = ps.length)
    (hb : ∀ fs ds s fs', Cl fs ds s fs' → ∀ p f cdv A outer s0 H E, Room k (A.deeper (envOfC q (defScope st) s0.heap.objs.size f cdv)) →
      HS (cx0 P w K mg base N q (defScope st) f cdv A outer s0 H E) (entryL N p C fs ds) (defBody st) (fun r' => s = .d .non ∧ r'[0]? = some (.ob (some p) C fs')) (fun s' r' => s' = s ∧ r'[0]? = some (.ob (some p) C fs'))) : HasN P w K mg base (k + 1) x C Cl := by
  obtain ⟨f, fd, Fn, mk, b⟩ := T.ex
  exact ⟨f, fd, ps, mk, T.mgC, fn_okL Fn S hl fun fs ds s fs' c p => hb fs ds s fs' c p f, b⟩
end
/-! ### new objects of ours, with own lists -/
def PN (X : Cx) (r : List Slot) (e : Expr) (C : Addr) (fs : List (Str × Fld)) : Prop := ∀ (F : Fr) (G : Hp) (t : L2.St) (H : Hp), At X.K F G r t H → ∀ Q : VK,
  (∀ p dx vs fps G' H', Ext G H G' H' → H' p = some (.ins C dx vs) → FldsOk X.K G' H' fs vs fps → (p :: fps).Nodup → (∀ a, a ∈ p :: fps → H a = none ∧ G' a = none) → Q (.ref p) H') → tE X e t H Q
def ScF : Fld → Prop
  | .d x => Sc x
  | .o xs => ∀ d, d ∈ xs → Sc d
theorem FldsOk.sc {K : PySem.W.Frag} {G G' H : Hp} {fs : List (Str × Fld)} {vs : List (Str × V)} {fp : List Addr} (h : FldsOk K G H fs vs fp) : (∀ z, z ∈ fs → ScF z.2) → FldsOk K G' H fs vs fp := by
  induction h with
  | nil => exact fun _ => .nil
  | @cons n x v fp fps fs vs h1 _ ih =>
    intro s
    refine .cons ?_ (ih fun z hz => s z (List.mem_cons_of_mem _ hz))
    have sx := s (n, x) (List.mem_cons_self ..)
    cases x with
    | d x => exact ⟨h1.1, Sc.any sx h1.2⟩
    | o xs =>
      obtain ⟨p, ws, rfl, rfl, k, da⟩ := h1
      exact ⟨p, ws, rfl, rfl, k, da.scAny sx⟩
theorem FldsOk.tell {K : PySem.W.Frag} {G H G' H' : Hp} {fs : List (Str × Fld)} {vs : List (Str × V)} {fps : List Addr} (h : FldsOk K G' H' fs vs fps) : ∀ G1, Same G' G1 → Ext G H G1 H' → fps.Nodup → (∀ a, a ∈ fps → H a = none ∧ G1 a = none) →
    ∃ G2 ws, Same G1 G2 ∧ Ext G H G2 H' ∧ vs = (fs.map Prod.fst).zip ws ∧ ws.length = (fs.map Prod.fst).length ∧ DtAll K G2 ws (fs.map fun z => z.2.toD) ∧ ∀ a, a ∉ fps → G2 a = G1 a := by
  induction h with
  | nil => exact fun G1 s e _ _ => ⟨G1, [], Same.refl _, e, rfl, rfl, .nil, fun _ _ => rfl⟩
  | @cons n x v fp fps fs vs h1 _ ih =>
    intro G1 s e nd n
    cases x with
    | d x =>
      obtain ⟨rfl, k⟩ := h1
      obtain ⟨G2, ws, a1, a2, rfl, a4, a5, a6⟩ := ih G1 s e nd n
      exact ⟨G2, v :: ws, a1, a2, rfl, by simp at a4 ⊢; exact a4, .cons (Dt.mono (s.trans a1) _ _ k) a5, a6⟩
    | o xs =>
      obtain ⟨p, us, rfl, rfl, k, da⟩ := h1
      rw [List.singleton_append, List.nodup_cons] at nd
      have np := n p (by simp)
      have s1 : Same G1 (upd G1 p (.lst us)) := Same.new np.2
      obtain ⟨G2, ws, a1, a2, rfl, a4, a5, a6⟩ := ih (upd G1 p (.lst us)) (s.trans s1) (e.tell np.1 np.2 k) nd.2 (fun a ha => by
        have z := n a (by simp [ha])
        have ne : a ≠ p := fun c => nd.1 (c ▸ ha)
        exact ⟨z.1, by rw [upd_ne ne]; exact z.2⟩)
      refine ⟨G2, _ :: ws, s1.trans a1, a2, rfl, by simp at a4 ⊢; exact a4, .cons (.lst (a1 _ _ upd_same) (DtAll.mono ((s.trans s1).trans a1) _ _ da)) a5, fun a ha => ?_⟩
      have ha' : a ≠ p ∧ a ∉ fps := by simpa using ha
      rw [a6 a ha'.2, upd_ne ha'.1]
section
variable {X : Cx} {r : List Slot} {e a : Expr} {es : List Expr} {pos p pT px : Pos} {d : D} {ds dD : List D} {C C' : Addr} {fs fs' : List (Str × Fld)} {ss : List Slot} {x : Str} {k : Nat} {Ct0 : Ct} {Cl : CtL} {rest : List Stmt} {N : List Slot → Prop} {R : Slot → List Slot → Prop}
/-- told: data -/
theorem pp_new (h : PN X r e C fs) : PP X r e (.ins C (fs.map Prod.fst) (fs.map fun z => z.2.toD)) := fun F G t H A Q q => h F G t H A Q fun p dx vs fps G' H' e k fk nd n => by
  rw [List.nodup_cons] at nd
  obtain ⟨G2, ws, a1, a2, rfl, a4, a5, a6⟩ := fk.tell G' (Same.refl _) e nd.2 fun a ha => n a (List.mem_cons_of_mem _ ha)
  have gp : G2 p = none := by rw [a6 p nd.1]; exact (n p (by simp)).2
  exact q _ (upd G2 p _) H' (a2.tell (n p (by simp)).1 gp k) (.ins upd_same a4 (DtAll.mono (Same.new gp) _ _ a5))
/-- C(e, ..), the arguments looked at, the fields scalars -/
theorem pn_make (h : HasN X.prog X.w X.K X.mg X.base k x C Cl) (hr : Room (k + 1) X.A) (ha : AB X r (e :: es) ds) (hc : Cl [] ds (.d .non) fs) (sc : ∀ z, z ∈ fs → ScF z.2) (hg : Gl X x := by rfl) (hdb : (x == ("__debug__" : Str)) = false := by decide)
    (he : starEach (e :: es) X.env = (false, eval e X.env) :: starEach es X.env := by rfl) (hpl : (backTo pos (starEach es X.env)).any (·.1) = false := by rfl) : PN X r (.Call (.Name x p) (e :: es) [] pos) C fs := fun F G t H A Q q => by
  obtain ⟨f, fd, ps, mk, hm, Fn, b⟩ := h
  refine oE (pe_make mk Fn hr hg hm b .nil pass0 cA hdb he hpl) (ha F G t H A _ fun vs G1 H1 e1 k1 => fun y dy ny ndy ne => ?_)
  rw [List.append_nil]
  have s2 : Same H1 (upd (upd H1 dy (.own y)) y (.ins C dy [])) := fun a o z => by rw [upd_ne (ne_of_none z ny), upd_ne (ne_of_none z ndy)]; exact z
  refine ⟨H1, y, dy, [], [], vs, ds, [], .d .non, fs, rfl, upd_same, s2, .nil, by simp, (fun a ha => by
    have : a = y := by simpa using ha
    rw [this]; exact ny), k1, hc, fun v H' ret => ?_⟩
  obtain ⟨r', t', G', o, fp, sl, nd, fr⟩ := ret
  cases sl with
  | @cons _ _ fp0 fps0 _ _ h1 h2 =>
    obtain ⟨v', ev, hfp0, hv⟩ := h1
    cases ev; cases hv
    subst hfp0
    cases h2 with
    | @cons _ _ fp1 fps1 _ _ h1 h2 =>
      obtain ⟨p, dx, ws, fps, rfl, rfl, hp, fk, hq⟩ := h1
      have ep := hq y rfl
      subst ep
      refine ⟨rfl, ?_⟩
      rw [List.nil_append] at nd fr
      have nn : ∀ a, a ∈ y :: fps → H1 a = none := fun a ha => by
        rcases (fr a (List.mem_append_left _ ha)).2 with z | z
        · rcases cut_none z with c | c
          · have : a = y := by simpa using c
            rw [this]; exact ny
          · cases w : H1 a with
            | none => rfl
            | some o => rw [s2 a o w] at c; cases c
        · cases z
      have hH : Same H1 H' := fun a u z => o.h a u (by
        have ne : a ∉ [y] := fun c => by
          have : a = y := by simpa using c
          rw [this, ny] at z; cases z
        show cut _ [y] a = some u
        rw [cut_out ne]; exact s2 a u z) (by simp)
      exact q y dx ws fps G1 H' ⟨e1.g, e1.gh.trans hH, e1.h.trans hH, e1.nw⟩ hp (fk.sc sc) (List.nodup_append.mp nd).1 fun a ha => ⟨e1.h.free (nn a ha), e1.gh.free (nn a ha)⟩
theorem Ret.extN {K : PySem.W.Frag} {G H : Hp} {v : V} {H' : Hp} {qa : Option Addr} (h : Ret K ⟨[], G, H⟩ (.ob qa C fs) v H') : ∃ p dx vs fps G', v = .ref p ∧ Ext G H G' H' ∧ H' p = some (.ins C dx vs) ∧ FldsOk K G' H' fs vs fps ∧ (p :: fps).Nodup ∧ ∀ a, a ∈ p :: fps → H a = none ∧ G' a = none := by
  obtain ⟨r', t', G', o, fp, s, nd, fr⟩ := h
  cases s with
  | cons h1 _ =>
    obtain ⟨p, dx, vs, fps, e, rfl, k1, k2, _⟩ := h1
    cases e
    refine ⟨p, dx, vs, fps, G', rfl, ⟨o.g, o.gh, fun a u q => o.h a u q (by simp), o.nw⟩, k1, k2, (List.nodup_append.mp nd).1, fun a ha => ?_⟩
    have z := fr a (List.mem_append_left _ ha)
    exact ⟨z.2.elim id (fun w => by cases w), z.1⟩
/-- f(e, ..) hands back such an object -/
theorem pn_callB {qa : Option Addr} (h : Has X.prog X.w X.K X.mg X.base k x dD Ct0) (hr : Room k X.A) (ha : AB X r (e :: es) ds) (hc : Ct0 (ds ++ dD) (.ob qa C fs)) (sc : ∀ z, z ∈ fs → ScF z.2) (hg : Gl X x := by rfl) (hdb : (x == ("__debug__" : Str)) = false := by decide)
    (he : starEach (e :: es) X.env = (false, eval e X.env) :: starEach es X.env := by rfl) (hpl : (backTo pos (starEach es X.env)).any (·.1) = false := by rfl) : PN X r (.Call (.Name x p) (e :: es) [] pos) C fs := fun F G t H A Q q => by
  obtain ⟨dvs, da, pe⟩ := call_of h hr hg hdb he hpl
  refine oE pe (ha F G t H A _ fun vs G1 H1 e1 k1 => ⟨H1, ds ++ dD, _, Same.refl H1, k1.app (da H1), hc, fun v H' ret => ?_⟩)
  obtain ⟨p, dx, vs, fps, G', rfl, e2, h', fk, nd, n⟩ := ret.extN
  exact q p dx vs fps G1 H' ⟨e1.g, e1.gh.trans e2.h, e1.h.trans e2.h, e1.nw⟩ h' (fk.sc sc) nd fun a ha => ⟨e1.h.free (n a ha).1, e1.gh.free (n a ha).1⟩
theorem as_n (ha : PN X r e C fs) (hr : AS X r es ss) (hs : starEach (e :: es) X.env = (false, eval e X.env) :: starEach es X.env := by rfl) : AS X r (e :: es) (.ob none C fs :: ss) := fun F G t H A Q q =>
  oA (pa_cons cE cA hs) (ha F G t H A _ fun p dx us fps G1 H1 e1 hp fk nd1 n1 => hr F G1 t H1 (A.ext e1) _ fun vs G2 H2 fp e2 sl nd nw => by
    have has : ∀ a, a ∈ p :: fps → H1 a ≠ none := fun a ha => by
      rcases List.mem_cons.mp ha with rfl | w
      · rw [hp]; exact fun z => by cases z
      · exact fk.has a w
    refine q (.ref p :: vs) G2 H2 ((p :: fps) ++ fp) (e1.trans e2) (.cons ⟨p, dx, us, fps, rfl, rfl, e2.h _ _ hp, fk.frame e2.g (fun a o _ w => e2.h a o w), fun a z => by cases z⟩ sl) ?_ fun a ha => ?_
    · rw [List.nodup_append]
      exact ⟨nd1, nd, fun a ha b hb e => has a ha (e ▸ (nw b hb).1)⟩
    · rcases List.mem_append.mp ha with w | w
      · exact ⟨(n1 a w).1, e2.nw a (has a w) (n1 a w).2⟩
      · exact ⟨e1.h.free (nw a w).1, (nw a w).2⟩)
/-- return of such an object -/
theorem hs_retN (he : PN X r e C fs) (m : R (.ob none C fs) r) : HS X r (.Return (some e) pos :: rest) N R := hs_cons (M := fun _ => False) (fun F G t H nl A D n q =>
  oS (ps_ret cE) (he F G t H A _ fun p dx vs fps G' H' e k fk nd0 nw => by
    obtain ⟨o, fp, s, nd, fr⟩ := A.ext e
    refine q (.ob none C fs) r _ t G' H' m ⟨o, (p :: fps) ++ fp, .cons ⟨p, dx, _, fps, rfl, rfl, k, fk, (fun a z => by cases z)⟩ s, ?_, fun a ha => ?_⟩
    · rw [List.nodup_append]
      exact ⟨nd0, nd, fun a ha b hb z => not_in A e (nw a ha).1 s (z ▸ hb)⟩
    · rcases List.mem_append.mp ha with w | w
      · exact ⟨(nw a w).2, .inl (free_F A (nw a w).1)⟩
      · exact fr a w)) fun _ h => h.elim
/-- x = C(..) -/
theorem hs_asgN (i : Nat) {s : Slot} (nd : X.N.Nodup) (he : PN X r e C fs) (k : HS X (r.set i (.ob none C fs)) rest N R) (hr : r[i]? = some s := by rfl) (hN : X.N[i]? = some x := by rfl) (hx : Loc X.env.scope x := by first | exact Or.inl rfl | exact Or.inr rfl) (hs : swapsWith e (some (.Name x px)) pos.line X.env = pure false := by rfl)
    (hf : X.fn x = true ∨ X.env.scope.names.lookup x = some .local := by first | exact .inl rfl | exact .inr rfl) : HS X r (.Assign [.Name x px] e pos :: rest) N R := hs_cons (M := fun r' => r' = r.set i (.ob none C fs)) (fun F G t H nl A D n q =>
  oS (ps_set nd hN hx cE hs hf) (he F G t H A _ fun p dx vs fps G' H' e k fk nd0 nw => n _ G' _ H' rfl ((A.ext e).put hr (s' := .ob none C fs) (v' := some (.ref p)) (fp' := p :: fps) ⟨p, dx, vs, fps, rfl, rfl, k, fk, fun a z => by cases z⟩ nd0 fun a ha => ⟨(nw a ha).2, free_F A (nw a ha).1, fun fp sl => not_in A e (nw a ha).1 sl⟩))) fun _ e => e ▸ k
end
/-! ### calls that change an object of ours -/
section
variable {K : PySem.W.Frag} {F : Fr} {G H : Hp} {r : List Slot} {t : L2.St}
/-- an object lent to a method and given back -/
theorem At.rep2 {i : Nat} {qa : Option Addr} {C : Addr} {fs : List (Str × Fld)} (nl : F.L = []) (A : At K F G r t H) (hi : r[i]? = some (.ob qa C fs)) : ∃ p dx vs fps, t[i]? = some (some (.ref p)) ∧ H p = some (.ins C dx vs) ∧ FldsOk K G H fs vs fps ∧ (p :: fps).Nodup ∧ (∀ a, a ∈ p :: fps → G a = none) ∧ (∀ a, qa = some a → a = p) ∧
    ∀ G' H' r' t' s fs', At K ⟨[], G, cut H (p :: fps)⟩ G' (s :: .ob (some p) C fs' :: r') t' H' → ∃ fp', (∃ v t1, t' = v :: t1 ∧ SlotOk K G' H' s v fp') ∧ (fp' = [] → At K F G' (r.set i (.ob qa C fs')) t H') := by
  obtain ⟨k, fp, sl, nd, fr⟩ := A
  obtain ⟨v, fp1, fp0, fp2, a1, a2, a3, a4⟩ := sl.split hi
  obtain ⟨p, dx, vs, fps, rfl, rfl, hp, fk, hq⟩ := a3
  have n1 : ∀ a, a ∈ fp1 ++ fp2 → a ∉ p :: fps := fun a ha h0 => by
    rw [a2, List.nodup_append] at nd
    obtain ⟨_, m2, m3⟩ := nd
    rw [List.nodup_append] at m2
    rcases List.mem_append.mp ha with z | z
    · exact m3 a z a (List.mem_append_left _ h0) rfl
    · exact m2.2.2 a h0 a z rfl
  have mem : ∀ a, a ∈ fp1 ++ fp2 → a ∈ fp := fun a ha => by
    rw [a2]
    rcases List.mem_append.mp ha with z | z
    · exact List.mem_append_left _ z
    · exact List.mem_append_right _ (List.mem_append_right _ z)
  have mem0 : ∀ a, a ∈ p :: fps → a ∈ fp := fun a ha => by rw [a2]; exact List.mem_append_right _ (List.mem_append_left _ ha)
  have fr0 : ∀ a, a ∈ fp → F.H a = none := fun a ha => by
    rcases (fr a ha).2 with z | z
    · exact z
    · rw [nl] at z; cases z
  refine ⟨p, dx, vs, fps, a1, hp, fk, ?_, fun a ha => (fr a (mem0 a ha)).1, hq, fun G' H' r' t' s fs' A' => ?_⟩
  · rw [a2, List.nodup_append] at nd
    exact (List.nodup_append.mp nd.2.1).1
  obtain ⟨o, fpx, slx, ndx, frx⟩ := A'
  cases slx with
  | @cons _ vv fpa fpb _ t1 h1 h2 =>
    refine ⟨fpa, ⟨vv, t1, rfl, h1⟩, fun e => ?_⟩
    subst e
    cases h2 with
    | @cons _ _ fpc fpd _ _ h1 h2 =>
      rw [List.nil_append] at ndx frx
      have hc : SlotOk K G' H' (.ob qa C fs') (some (.ref p)) fpc := by
        obtain ⟨p', dx', vs', fps', rfl, rfl, hp', fk', hq'⟩ := h1
        have := hq' p rfl
        subst this
        exact ⟨p, dx', vs', fps', rfl, rfl, hp', fk', hq⟩
      have nc := (List.nodup_append.mp ndx).1
      have frc : ∀ a, a ∈ fpc → G' a = none ∧ (a ∈ p :: fps ∨ H a = none) := fun a ha => by
        have z := frx a (List.mem_append_left _ ha)
        exact ⟨z.1, cut_none (z.2.elim id fun w => by cases w)⟩
      have keep : ∀ a o', a ∈ fp1 ++ fp2 → H a = some o' → H' a = some o' := fun a o' ha q => o.h a o' (by show cut _ _ a = _; rw [cut_out (n1 a ha)]; exact q) (by simp)
      have no : ∀ x, x ∈ fpc → x ∉ fp1 ∧ x ∉ fp2 := fun x hx => by
        have z : x ∉ fp1 ++ fp2 := fun w => by
          rcases (frc x hx).2 with c | c
          · exact n1 x w c
          · exact sl.has x (mem x w) c
        exact ⟨fun w => z (List.mem_append_left _ w), fun w => z (List.mem_append_right _ w)⟩
      have out : ∀ a, F.H a ≠ none → a ∉ p :: fps := fun a h w => h (fr0 a (mem0 a w))
      have hset : t.set i (some (.ref p)) = t := by
        obtain ⟨hlt, he⟩ := List.getElem?_eq_some_iff.mp a1
        rw [← he]; exact List.set_getElem_self hlt
      have sl' := a4 G' H' (.ob qa C fs') (some (.ref p)) fpc o.g keep hc
      rw [hset] at sl'
      refine ⟨⟨k.g.trans o.g, o.gh, fun a u h nl' => ?_, fun a h g => ?_, fun a ha => ?_⟩, _, sl', nodup_mid (by rw [← a2]; exact nd) nc no, fun a ha => ?_⟩
      · have ne := out a (by rw [h]; exact fun z => by cases z)
        exact o.h a u (by show cut _ _ a = _; rw [cut_out ne]; exact k.h a u h nl') (by simp)
      · exact o.nw a (by show cut _ _ a ≠ _; rw [cut_out (out a h)]; exact k.ne h) (k.nw a h g)
      · rw [nl] at ha; cases ha
      · have old : a ∈ fp1 ++ fp2 → G' a = none ∧ (F.H a = none ∨ a ∈ F.L) := fun w =>
          ⟨o.nw a (by show cut _ _ a ≠ _; rw [cut_out (n1 a w)]; exact sl.has a (mem a w)) (fr a (mem a w)).1, (fr a (mem a w)).2⟩
        rcases List.mem_append.mp ha with w | w
        · exact old (List.mem_append_left _ w)
        · rcases List.mem_append.mp w with w | w
          · refine ⟨(frc a w).1, .inl ?_⟩
            rcases (frc a w).2 with c | c
            · exact fr0 a (mem0 a c)
            · cases z : F.H a with
              | none => rfl
              | some o => exact absurd c (k.ne (by rw [z]; exact fun w => by cases w))
          · exact old (List.mem_append_right _ w)
end
/-- an expression that changes the state's slots -/
def PL (X : Cx) (r : List Slot) (e : Expr) (d : D) (r' : List Slot) : Prop := ∀ (F : Fr) (G : Hp) (t : L2.St) (H : Hp), F.L = [] → At X.K F G r t H → ∀ Q : VK,
  (∀ v G' H', Same G G' → At X.K F G' r' t H' → Dt X.K G' v d → Q v H') → tE X e t H Q
section
variable {X : Cx} {r r' : List Slot} {e a : Expr} {es : List Expr} {pos p pT px apos : Pos} {d : D} {ds dD : List D} {qa : Option Addr} {C C' : Addr} {fs fs' : List (Str × Fld)} {x m : Str} {k : Nat} {Cl : CtL} {rest : List Stmt} {N : List Slot → Prop} {R : Slot → List Slot → Prop}
/-- o.m(e, ..) -/
theorem pl_meth {pl : Sem Bool} (i : Nat) (h : HasL X.prog X.w X.K X.mg X.base k C m Cl) (hr : Room k X.A) (ha : AQ X r (e :: es) ds) (hc : Cl fs ds (.d d) fs') (hi : r[i]? = some (.ob qa C fs) := by rfl) (hn : m ∉ fs.map Prod.fst := by decide) (hN : X.N[i]? = some x := by rfl)
    (hv : Vis X.env.scope x := by first | exact Or.inl rfl | exact Or.inr (Or.inl rfl) | exact Or.inr (Or.inr rfl)) (hd : (x == ("__debug__" : Str)) = false := by decide) (hcd : (x == ("__classdict__" : Str)) = false := by decide)
    (hst : starEach (e :: es) X.env = (false, eval e X.env) :: starEach es X.env := by rfl) (hpl : (backTo pos (starEach es X.env)).any (·.1) = false := by rfl)
    (ht : eval (.Call (.Attribute (.Name x px) m apos) (e :: es) [] pos) X.env = (do
      let ov ← eval (.Name x px) X.env
      standAt apos.atName
      let (f, first) ← holding [ov] (getMethod ov m pl)
      callWith pos f first (backTo pos (starEach (e :: es) X.env)) (backToKw pos (keywordEach [] X.env))) := by rfl) : PL X r (.Call (.Attribute (.Name x px) m apos) (e :: es) [] pos) d (r.set i (.ob qa C fs')) := fun F G t H nl A Q q => by
  obtain ⟨f, fd, ps, c, mt, Fn, b⟩ := h
  obtain ⟨pa, dx, vs, fps, h1, h2, fk, nd, gn, hq, _⟩ := A.rep2 nl hi
  obtain ⟨ws, hws, hl, _⟩ := fk.toD A.gh
  refine oE (pe_meth (pl := pl) (pe_var hN hv hd hcd) c mt Fn hr b .nil pass0 cA hst hpl ht) ⟨_, h1, pa, dx, vs, rfl, h2, by rw [hws]; exact look_none hn, ha F G t H A _ fun us G1 H1 e1 k1 => ?_⟩
  obtain ⟨pb, dx, vs, fps, g1, g2, fk, nd, gn, hq, back⟩ := (A.ext e1).rep2 nl hi
  rw [h1] at g1
  cases g1
  rw [List.append_nil]
  refine ⟨G1, _, dx, vs, fps, us, ds, fs, .d d, fs', rfl, g2, e1.gh, fk, nd, gn, k1, hc, fun v H' ⟨r', t', G', A'⟩ => ?_⟩
  obtain ⟨fp', ⟨v', t1, et, so⟩, kk⟩ := back G' H' r' _ (.d d) fs' A'
  cases et
  obtain ⟨v2, ev, e0, kv⟩ := so
  cases ev
  exact q v G' H' (e1.g.trans A'.ok.g) (kk e0) kv
/-- o.m() -/
theorem pl_meth0 {pl : Sem Bool} (i : Nat) (h : HasL X.prog X.w X.K X.mg X.base k C m Cl) (hr : Room k X.A) (hc : Cl fs [] (.d d) fs') (hi : r[i]? = some (.ob qa C fs) := by rfl) (hn : m ∉ fs.map Prod.fst := by decide) (hN : X.N[i]? = some x := by rfl)
    (hv : Vis X.env.scope x := by first | exact Or.inl rfl | exact Or.inr (Or.inl rfl) | exact Or.inr (Or.inr rfl)) (hd : (x == ("__debug__" : Str)) = false := by decide) (hcd : (x == ("__classdict__" : Str)) = false := by decide)
    (ht : eval (.Call (.Attribute (.Name x px) m apos) [] [] pos) X.env = (do
      let ov ← eval (.Name x px) X.env
      standAt apos.atName
      let (f, first) ← holding [ov] (getMethod ov m pl)
      callWith pos f first (backTo pos (starEach [] X.env)) (backToKw pos (keywordEach [] X.env))) := by rfl) : PL X r (.Call (.Attribute (.Name x px) m apos) [] [] pos) d (r.set i (.ob qa C fs')) := fun F G t H nl A Q q => by
  obtain ⟨f, fd, ps, c, mt, Fn, b⟩ := h
  obtain ⟨pa, dx, vs, fps, h1, h2, fk, nd, gn, hq, back⟩ := A.rep2 nl hi
  obtain ⟨ws, hws, hl, _⟩ := fk.toD A.gh
  refine oE (pe_meth0 (pl := pl) (pe_var hN hv hd hcd) c mt Fn hr b .nil pass0 ht) ⟨_, h1, pa, dx, vs, rfl, h2, by rw [hws]; exact look_none hn, ?_⟩
  refine ⟨G, pa, dx, vs, fps, [], [], fs, .d d, fs', rfl, h2, A.gh, fk, nd, gn, .nil, hc, fun v H' ⟨r', t', G', A'⟩ => ?_⟩
  obtain ⟨fp', ⟨v', t1, et, so⟩, kk⟩ := back G' H' r' _ (.d d) fs' A'
  cases et
  obtain ⟨v2, ev, e0, kv⟩ := so
  cases ev
  exact q v G' H' A'.ok.g (kk e0) kv
/-- o.m(..) as a statement -/
theorem hs_expL (he : PL X r e d r') (k : HS X r' rest N R) (hsw : swapsWith e none pos.line X.env = pure false := by rfl) : HS X r (.Expr e pos :: rest) N R :=
  hs_cons (M := fun r1 => r1 = r') (fun F G t H nl A D n q => oS (ps_expr cE hsw) (he F G t H nl A _ fun v G' H' _ A' _ => n _ G' t H' rfl A')) fun _ e => e ▸ k
/-- x = o.m(..) -/
theorem hs_asgL (i : Nat) {s : Slot} (nd : X.N.Nodup) (he : PL X r e d r') (k : HS X (r'.set i (.d d)) rest N R) (hr : r'[i]? = some s := by rfl) (hN : X.N[i]? = some x := by rfl) (hx : Loc X.env.scope x := by first | exact Or.inl rfl | exact Or.inr rfl) (hs : swapsWith e (some (.Name x px)) pos.line X.env = pure false := by rfl)
    (hf : X.fn x = true ∨ X.env.scope.names.lookup x = some .local := by first | exact .inl rfl | exact .inr rfl) : HS X r (.Assign [.Name x px] e pos :: rest) N R := hs_cons (M := fun r1 => r1 = r'.set i (.d d)) (fun F G t H nl A D n q =>
  oS (ps_set nd hN hx cE hs hf) (he F G t H nl A _ fun v G' H' _ A' k => n _ G' _ H' rfl (A'.asg hr k))) fun _ e => e ▸ k
/-- return o.m(..) -/
theorem hs_retL (he : PL X r e d r') (m : R (.d d) r') : HS X r (.Return (some e) pos :: rest) N R := hs_cons (M := fun _ => False) (fun F G t H nl A D n q =>
  oS (ps_ret cE) (he F G t H nl A _ fun v G' H' _ A' k => q (.d d) r' _ t G' H' m (A'.front k))) fun _ h => h.elim
end
end DL

/-! Part 20: targets that change lists of ours. -/
namespace DL
open PySem PySem.Spec PyProof.Rows L2
def GU (X : Cx) (r : List Slot) (tg : Expr) (d : D) (r' : List Slot) : Prop := ∀ (F : Fr) (G : Hp) (t : L2.St) (H : Hp) (v : V), At X.K F G r t H → Dt X.K G v d → ∀ Q : L2.St → Hp → Prop, (∀ G' t' H', Same G G' → At X.K F G' r' t' H' → Q t' H') → tG X tg v t H Q
def GsU (X : Cx) (r : List Slot) (ts : List Expr) (ds : List D) (r' : List Slot) : Prop := ∀ (F : Fr) (G : Hp) (t : L2.St) (H : Hp) (vs : List V), At X.K F G r t H → DtAll X.K G vs ds → ∀ Q : L2.St → Hp → Prop, (∀ G' t' H', Same G G' → At X.K F G' r' t' H' → Q t' H') → tGs X ts vs t H Q
section
variable {X : Cx} {r r1 r2 : List Slot} {e b tg : Expr} {ts : List Expr} {pos p px : Pos} {d : D} {ds xs : List D} {x : Str} {rest : List Stmt} {N : List Slot → Prop} {R : Slot → List Slot → Prop}
theorem gu_q (h : GQ X r tg d r1) : GU X r tg d r1 := fun F G t H v A k Q q => h F G t H v A k Q fun t' A' => q G t' H (Same.refl G) A'
theorem gus_nil : GsU X r [] [] r := fun F G t H vs A k Q q => by cases k; exact oGs pgs_nil ⟨rfl, q G t H (Same.refl G) A⟩
theorem gus_cons (h : GU X r tg d r1) (h' : GsU X r1 ts ds r2) (hs : (assignEach (tg :: ts) X.env).map (·.2) = assign tg X.env :: (assignEach ts X.env).map (·.2) := by rfl) : GsU X r (tg :: ts) (d :: ds) r2 := fun F G t H vs A k Q q => by
  cases k with
  | cons k1 k2 => exact oGs (pgs_cons cG cGs hs) ⟨_, _, rfl, h F G t H _ A k1 _ fun G1 t1 H1 s1 A1 => h' F G1 t1 H1 _ A1 (DtAll.mono s1 _ _ k2) Q fun G2 t2 H2 s2 A2 => q G2 t2 H2 (s1.trans s2) A2⟩
theorem gu_t {k : Nat} (h : GsU X r ts ds r1) (hc : X.calm = true := by rfl) (hn : (assignEach ts X.env).length = ds.length := by rfl) (hst : (assignEach ts X.env).findIdx? (·.1) = none := by rfl) : GU X r (.Tuple ts k px) (.tup ds) r1 := fun F G t H v A k Q q => by
  cases k with
  | tup h1 h2 => exact oG (pg_tup hc cGs hn hst) ⟨_, _, rfl, SqT.of (A.gh _ _ h1), h2.len, h F G t H _ A h2 Q q⟩
/-- xs[z] -/
theorem gu_ix {z : Int} {jx : Nat} (i : Nat) (hi : PB X r b (.int z)) (hx : ixN xs.length z = some jx) (hr : r[i]? = some (.o xs) := by rfl) (hN : X.N[i]? = some x := by rfl) (hv : Vis X.env.scope x := by first | exact Or.inl rfl | exact Or.inr (Or.inl rfl) | exact Or.inr (Or.inr rfl)) (hd : (x == ("__debug__" : Str)) = false := by decide)
    (hcd : (x == ("__classdict__" : Str)) = false := by decide)
    (hpg : ∀ {to ti : TE} {t : TSet}, PE X (.Name x px) to → PE X b ti → PSet X t → PG X (.Subscript (.Name x px) b p) (gSub to ti t) := by exact fun ho hi hs => pg_sub ho hi hs) : GU X r (.Subscript (.Name x px) b p) d (r.set i (.o (xs.set jx d))) := fun F G t H v A k Q q => by
  obtain ⟨l, vs, g1, g2, g3, g4, g5⟩ := A.upd hr
  refine oG (hpg (pe_var hN hv hd hcd) cE set_list) ⟨_, g1, hi F G t H A _ fun w G2 H2 e k2 => ?_⟩
  cases k2
  exact ⟨l, vs, z, jx, rfl, rfl, e.h _ _ g2, by rw [g3.len]; exact hx, q G2 t _ e.g (g5 G2 H2 _ _ e (DtAll.set (Dt.mono e.g _ _ k) jx (DtAll.mono e.g _ _ g3)))⟩
theorem hs_asgU (he : PP X r e d) (hg : GU X r tg d r1) (k : HS X r1 rest N R) (hs : swapsWithSole [tg] e pos.line X.env = pure false := by rfl) (hw : swappedStores [tg] e X.env = pure none := by rfl) (h1 : (assignEach [tg] X.env).map (·.2) = [assign tg X.env] := by rfl) : HS X r (.Assign [tg] e pos :: rest) N R :=
  hs_cons (M := fun r' => r' = r1) (fun F G t H nl A D n q =>
    oS (ps_asg cE cG hs hw h1) (he F G t H A _ fun v G' H' e k => hg F G' t H' v (A.ext e) k _ fun G2 t' H2 _ A' => n r1 G2 t' H2 rfl A')) fun _ e => e ▸ k
end
/-! ### a property told by a slot -/
def Slot.bad : Slot := .d (.ins 0 [] [.non])
open Classical in
noncomputable def ow (p : Prop) (s : Slot) : Slot := if p then s else Slot.bad
theorem ow_yes {p : Prop} {s : Slot} (h : p) : ow p s = s := if_pos h
section
variable {X : Cx} {r : List Slot} {p : Prop} {s : Slot} {sts : List Stmt} {N : List Slot → Prop} {R : Slot → List Slot → Prop}
theorem hs_ow (h : p → HS X (s :: r) sts N R) : HS X (ow p s :: r) sts N R := by
  by_cases c : p
  · rw [ow_yes c]; exact h c
  · unfold ow
    rw [if_neg c]
    intro F G t H nl A
    obtain ⟨_, fp, sl, _⟩ := A
    cases sl with
    | cons h1 _ =>
      obtain ⟨v, _, _, k⟩ := h1
      cases k with
      | ins _ h2 h3 =>
        cases h3 with
        | cons _ h4 => simp at h2
end
end DL

/-! Part 21: comprehensions over enumerate. -/
namespace DL
open PySem PySem.Spec PyProof.Rows L2
theorem set_swap {α : Type} {l : List α} {i j : Nat} {a b : α} (h : i ≠ j) : (l.set i a).set j b = (l.set j b).set i a := List.set_comm a b h
section
variable {X : Cx} {r r1 r2 : List Slot} {e a b c tg it elt : Expr} {es ts ifs : List Expr} {pos p px py tpos : Pos} {d d1 d2 : D} {ds xs ys : List D} {n : Int} {i j : Nat} {x y : Str} {rest : List Stmt} {N M : List Slot → Prop} {R : Slot → List Slot → Prop}
theorem wipe2 {t : L2.St} {u v : Option V} (h : i ≠ j) : L2.wipe (((L2.wipe t [i, j]).set i u).set j v) [i, j] = L2.wipe t [i, j] := by
  show (((((t.set j none).set i none).set i u).set j v).set j none).set i none = (t.set j none).set i none
  rw [List.set_set, List.set_set, set_swap h, List.set_set, List.set_set]
theorem At.in2 {K : PySem.W.Frag} {F : Fr} {G : Hp} {t : L2.St} {H : Hp} {s1 s2 : Slot} {u v : V} (A : At K F G r t H) (hij : i ≠ j) (hr : r[i]? = some s1) (hr2 : r[j]? = some s2) (k : Dt K G u d1) (k2 : Dt K G v d2) :
    At K F G ((r.set i (.d d1)).set j (.d d2)) (((L2.wipe t [i, j]).set i (some u)).set j (some v)) H := by
  have e : (r.set i (.d d1)).set j (.d d2) = ((wipeR r [i, j]).set i (.d d1)).set j (.d d2) := by
    show _ = ((((r.set j .un).set i .un).set i (.d d1)).set j (.d d2))
    rw [List.set_set, set_swap hij.symm, List.set_set]
  rw [e]
  have hi : i < r.length := (List.getElem?_eq_some_iff.mp hr).1
  have hj : j < r.length := (List.getElem?_eq_some_iff.mp hr2).1
  refine At.asg (s := .un) (At.asg (s := .un) (A.wipe [i, j]) ?_ k) ?_ k2
  · show ((r.set j .un).set i .un)[i]? = _
    rw [List.getElem?_set_self (by rw [List.length_set]; exact hi)]
  · show (((r.set j .un).set i .un).set i (.d d1))[j]? = _
    rw [List.getElem?_set_ne hij, List.getElem?_set_ne hij, List.getElem?_set_self hj]
abbrev gTwo (K : PySem.W.Frag) (i j : Nat) : TG := gTup K 2 (gCons (gName i) (gCons (gName j) gNil))
theorem cw_turn2 {scope : Scope} {F : Fr} {G1 : Hp} {t : L2.St} {H1 H0 : Hp} {f : Nat → Bool} {g : Nat → D} {L T : Addr} {k : Nat} {s1 s2 : Slot} {u v : V} (A : At X.K F G1 r t H1) (hij : i ≠ j) (hr : r[i]? = some s1) (hr2 : r[j]? = some s2) (hL : H1 L = none) (c : Cw X.K G1 H1 f g L k H0) (hT : H0 T = none) (hk : k < sizeLine)
    (kd : ∀ G', Ext G1 H1 G' H0 → Dt X.K G' u d1) (kd2 : ∀ G', Ext G1 H1 G' H0 → Dt X.K G' v d2) (ht : ∀ s H C cl fp, FQ (Blk X scope s H C cl fp) ((r.set i (.d d1)).set j (.d d2)) ifs (f k)) (he : f k = true → ∀ s H C cl fp, PP (Blk X scope s H C cl fp) ((r.set i (.d d1)).set j (.d d2)) elt (g k)) :
    gTwo X.K i j (.ref T) (L2.wipe t [i, j]) (upd H0 T (.tup [u, v])) fun t2 H2 => L2.wipe t2 [i, j] = L2.wipe t [i, j] ∧ bTs X scope ifs t2 H2 fun b H3 => if b = true then bE X scope elt t2 H3 fun y H4 => ∃ acc, H4 L = some (.lst acc) ∧ acc.length < sizeLine ∧ Cw X.K G1 H1 f g L (k + 1) (upd H4 L (.lst (acc ++ [y]))) else Cw X.K G1 H1 f g L (k + 1) H3 := by
  obtain ⟨G0, vs, e0, gl0, hl0, da0⟩ := c
  have eT : Ext G0 H0 (upd G0 T (.tup [u, v])) (upd H0 T (.tup [u, v])) := Ext.new e0.gh hT
  have kd := Dt.mono eT.g _ _ (kd G0 e0)
  have kd2 := Dt.mono eT.g _ _ (kd2 G0 e0)
  have e := e0.trans eT
  have neL : L ≠ T := fun z => by rw [z, hT] at hl0; cases hl0
  have gl : upd G0 T (.tup [u, v]) L = none := by rw [upd_ne neL]; exact gl0
  have hl : upd H0 T (.tup [u, v]) L = some (.lst vs) := by rw [upd_ne neL]; exact hl0
  have da := DtAll.mono eT.g _ _ da0
  generalize upd G0 T (.tup [u, v]) = G' at *
  refine ⟨T, [u, v], rfl, SqT.of upd_same, rfl, u, [v], rfl, v, [], rfl, rfl, wipe2 hij, ?_⟩
  generalize upd H0 T (.tup [u, v]) = H' at *
  have A' := A.ext e
  refine fun s0 H0 C cl fp => ht s0 H0 C cl fp F G' _ H' (A'.in2 hij hr hr2 kd kd2) _ fun G3 H3 e3 => ?_
  have gl3 : G3 L = none := e3.nw L (by rw [hl]; exact fun z => by cases z) gl
  cases hf : f k with
  | true =>
    show bE X scope elt _ H3 _
    refine fun s0 H0 C cl fp => he hf s0 H0 C cl fp F G3 _ H3 ((A'.ext e3).in2 hij hr hr2 (Dt.mono e3.g _ _ kd) (Dt.mono e3.g _ _ kd2)) _ fun y G4 H4 e4 ky => ?_
    have e5 := (e.trans e3).trans e4
    have hl4 : H4 L = some (.lst vs) := e4.h _ _ (e3.h _ _ hl)
    have gl4 : G4 L = none := e4.nw L (by rw [e3.h _ _ hl]; exact fun z => by cases z) gl3
    refine ⟨vs, hl4, ?_, G4, vs ++ [y], ⟨e5.g, fun a o q => ?_, fun a o q => ?_, e5.nw⟩, gl4, upd_same, ?_⟩
    · rw [da.len]
      exact Nat.lt_of_le_of_lt (madeD_len f g k) hk
    · rw [upd_ne (ne_of_none q gl4)]; exact e5.gh a o q
    · rw [upd_ne (ne_of_none q hL)]; exact e5.h a o q
    · rw [madeD_yes hf]
      exact (DtAll.mono (e3.g.trans e4.g) _ _ da).app (.cons ky .nil)
  | false =>
    show Cw X.K G1 H1 f g L (k + 1) H3
    exact ⟨G3, vs, e.trans e3, gl3, e3.h _ _ hl, by rw [madeD_no hf]; exact DtAll.mono e3.g _ _ da⟩
/-- [elt for x, y in enumerate(xs) if ..] -/
theorem po_lcE {scope : Scope} {cpos : Pos} {kt : Nat} (B : Bi X.mg) (i j : Nat) {s1 s2 : Slot} (nd : X.N.Nodup) (f : Nat → Bool) (g : Nat → D) (ha : PP X r a (.lst ds)) (hn : ds.length ≤ sizeLine)
    (ht : ∀ (k : Nat) (d : D), ds[k]? = some d → ∀ s H C cl fp, FQ (Blk X scope s H C cl fp) ((r.set i (.d (.int k))).set j (.d d)) ifs (f k)) (he : ∀ (k : Nat) (d : D), ds[k]? = some d → f k = true → ∀ s H C cl fp, PP (Blk X scope s H C cl fp) ((r.set i (.d (.int k))).set j (.d d)) elt (g k))
    (hij : i ≠ j := by decide) (ok : BlkOk X.N X.env.scope scope [(x, i), (y, j)] := by exact blkOk_by (by kernel_rfl))
    (hb : ∀ (s : Shared) (H : Hp) (C : Addr) (cl : List (Str × Addr)) (fp : List Addr), PG (Blk X scope s H C cl fp) (.Tuple [.Name x px, .Name y py] kt tpos) (gTwo X.K i j) := by
      first
      | exact fun _ _ _ _ _ => pg_tup rfl (pgs_cons (pg_name (by assumption) rfl (Or.inl rfl)) (pgs_cons (pg_name (by assumption) rfl (Or.inl rfl)) pgs_nil))
      | exact fun _ _ _ _ _ => pg_tup rfl (pgs_cons (pg_name (by assumption) rfl (Or.inl rfl)) (pgs_cons (pg_name (by assumption) rfl (Or.inr rfl)) pgs_nil))
      | exact fun _ _ _ _ _ => pg_tup rfl (pgs_cons (pg_name (by assumption) rfl (Or.inr rfl)) (pgs_cons (pg_name (by assumption) rfl (Or.inl rfl)) pgs_nil))
      | exact fun _ _ _ _ _ => pg_tup rfl (pgs_cons (pg_name (by assumption) rfl (Or.inr rfl)) (pgs_cons (pg_name (by assumption) rfl (Or.inr rfl)) pgs_nil)))
    (hr : r[i]? = some s1 := by rfl) (hr2 : r[j]? = some s2 := by rfl) (hc : X.calm = true := by rfl) (hg : Gl X "enumerate" := by rfl) (hs : starEach [a] X.env = [(false, eval a X.env)] := by rfl) (hfs : ∀ x, foldedSetIterable (.Call (.Name "enumerate" p) [a] [] cpos) X.env x = pure x := by intro _; rfl) :
    PO X r (.ListComp elt [⟨.Tuple [.Name x px, .Name y py] kt tpos, .Call (.Name "enumerate" p) [a] [] cpos, ifs, 0⟩] scope pos) (madeD f g ds.length) := fun F G t H A Q q => by
  refine oE (pe_lc (own := [(x, i), (y, j)]) (g := gTwo X.K i j) (tt := bTs X scope ifs) (te := bE X scope elt) hc nd (pi_enum hg B.enum cA hs) ok hb bts_of be_of hfs) (aq_cons ha aq_nil hs F G t H A _ fun vs G1 H1 e1 k1 => ?_)
  cases k1 with
  | cons k1 k2 =>
    cases k2
    cases k1 with
    | @lst l vs _ h1 h2 =>
      have A1 := A.ext e1
      have hS := A1.gh _ _ h1
      refine ⟨l, vs, rfl, SqL.of hS, fun L hL => lc_it (walk_enum (xs := vs)) (Cw X.K G1 H1 f g L) (cw_start A1.gh hL) (fun k H' _ c => by obtain ⟨_, _, e, _⟩ := c; exact SqL.of (e.h _ _ hS)) (fun k w H' H'' hk c y => ?_) fun H' c => cw_end e1 hL (by rw [h2.len] at c; exact c) q⟩
      obtain ⟨T, u, v, rfl, hT, rfl, eu, ev⟩ := y
      cases eu
      obtain ⟨d, hd, kd⟩ := h2.get' ev
      have hlt : k < ds.length := (List.getElem?_eq_some_iff.mp hd).1
      exact cw_turn2 (d1 := .int k) (d2 := d) A1 hij hr hr2 hL c hT (by omega) (fun G' e => .int _) (fun G' e => Dt.mono e.g _ _ kd) (ht k d hd) (he k d hd)
end
section
variable {α : Type} [Inhabited α] {f1 f2 : α → D} {as : List α} {X : Cx} {r : List Slot} {it : Expr} {px py : Pos} {ds : List D} {x y : Str} {body : List Stmt} {M : List Slot → Prop} {R : Slot → List Slot → Prop}
/-- for x, y in ((..), ..) -/
theorem s1_forTA2 {fpos tpos : Pos} {kt : Nat} (i j : Nat) {s s2 : Nat → Slot} (nd : X.N.Nodup) (I : Nat → List Slot) (ha : PP X r it (.tup ds)) (hds : ds = as.map fun w => .tup [f1 w, f2 w]) (h0 : Le r (I 0)) (hb : ∀ (k : Nat) (w : α), as[k]? = some w → HS X (((I k).set i (.d (f1 w))).set j (.d (f2 w))) body (fun r' => Le r' (I (k + 1))) R) (m : M (I as.length))
    (hij : i ≠ j := by decide) (hr : ∀ k, (I k)[i]? = some (s k) := by intro _; rfl) (hr2 : ∀ k, (I k)[j]? = some (s2 k) := by intro _; rfl) (hN : X.N[i]? = some x := by rfl) (hx : Loc X.env.scope x := by first | exact Or.inl rfl | exact Or.inr rfl) (hf : X.fn x = true ∨ X.env.scope.names.lookup x = some .local := by first | exact .inl rfl | exact .inr rfl)
    (hN2 : X.N[j]? = some y := by rfl) (hx2 : Loc X.env.scope y := by first | exact Or.inl rfl | exact Or.inr rfl) (hf2 : X.fn y = true ∨ X.env.scope.names.lookup y = some .local := by first | exact .inl rfl | exact .inr rfl)
    (hs1 : (assignEach [.Name x px, .Name y py] X.env).map (·.2) = assign (.Name x px) X.env :: (assignEach [.Name y py] X.env).map (·.2) := by rfl) (hs2 : (assignEach [.Name y py] X.env).map (·.2) = assign (.Name y py) X.env :: (assignEach [] X.env).map (·.2) := by rfl) (hal : (assignEach [.Name x px, .Name y py] X.env).length = 2 := by rfl) (hst : (assignEach [.Name x px, .Name y py] X.env).findIdx? (·.1) = none := by rfl)
    (hp : PassesOwn (model X.prog X.w) X.A X.env X.xe := by exact PassesOwn.never) (hc : X.calm = true := by rfl) (hfs : ∀ x, foldedSetIterable it X.env x = pure x := by intro _; rfl) :
    S1 X r (.For (.Tuple [.Name x px, .Name y py] kt tpos) it body [] fpos) M R := by
  subst hds
  exact s1_forT I (fun k => ((I k).set i (.d (f1 (as.getD k default)))).set j (.d (f2 (as.getD k default)))) ha h0 (fun k d hd => by
    obtain ⟨w, hw, rfl⟩ := lists_get hd
    rw [getD_at hw]
    exact gq_t (gqs_cons (gq_n i nd (hr k) hN hx hf) (gqs_cons (gq_n j nd (by rw [List.getElem?_set_ne hij]; exact hr2 k) hN2 hx2 hf2) gqs_nil hs2) hs1) hc hal hst) (fun k d hd => by
    obtain ⟨w, hw, rfl⟩ := lists_get hd
    rw [getD_at hw]
    exact hb k w hw) (by rw [List.length_map]; exact m) hp hc hfs
end
section
variable {X : Cx} {r : List Slot} {a : Expr} {p pos px : Pos} {ns ms : List Int} {qa : Option Addr} {C : Addr} {fs : List (Str × Fld)} {ds : List D} {x : Str}
theorem sorted_eq {a b : List Int} (h : a.Perm b) (ha : a.Pairwise (· ≤ ·)) (hb : b.Pairwise (· ≤ ·)) : a = b := h.eq_of_pairwise (le := (· ≤ ·)) (fun x y _ _ h1 h2 => Int.le_antisymm h1 h2) ha hb
/-- sorted(xs), ints -/
theorem po_sorted (B : Bi X.mg) (ha : PB X r a (.ints ns)) (hp1 : ms.Perm ns) (hp2 : ms.Pairwise (· ≤ ·)) (hs : starEach [a] X.env = (false, eval a X.env) :: starEach [] X.env := by rfl) (hg : Gl X "sorted" := by rfl) (hp : (backTo pos (starEach [] X.env)).any (·.1) = false := by rfl) :
    PO X r (.Call (.Name "sorted" p) [a] [] pos) (ms.map .int) := fun F G t H A Q q =>
  oE (pe_callB cr_sortedI hg B.sorted (by decide +kernel) cA (he := hs) (hpl := hp)) (ab1 ha hs F G t H A _ fun vs G1 H1 e1 k1 => by
    cases k1 with
    | cons k1 k2 =>
      cases k2
      cases k1 with
      | lst h1 h2 =>
        rw [h2.ints_inv] at h1
        refine ⟨_, ns, rfl, SqL.of h1, fun os l p1 p2 hl => ?_⟩
        have e : os = ms := sorted_eq (p1.trans hp1.symm) p2 hp2
        subst e
        exact q l _ G1 _ (e1.trans (Ext.newO e1.gh hl)) (e1.h.free hl) (e1.gh.free hl) upd_same (DtAll.ints _))
end
end DL

/-! Part 22: isinstance of two classes; several targets. -/
namespace DL
open PySem PySem.Spec PyProof.Rows L2
section
variable {X : Cx} {r : List Slot} {a : Expr} {pos p pT pT2 px : Pos} {kt : Nat} {d : D} {x y : Str}
/-- isinstance(x, (T1, T2)) -/
theorem pb_isiT {n T1 T2 : String} {k1 k2 : Bool} (B : Bi X.mg) (ha : PB X r a d) (hT : X.mg x = none) (hv : bootBuiltins x = some (.type T1)) (hT2 : X.mg y = none) (hv2 : bootBuiltins y = some (.type T2)) (hn : tyD d = some n) (hk : kitB n T1 = some k1) (hk2 : kitB n T2 = some k2)
    (hgT : Gl X x := by rfl) (hxn : x ≠ "__name__" := by decide) (hxd : (x == ("__debug__" : Str)) = false := by decide) (hgT2 : Gl X y := by rfl) (hyn : y ≠ "__name__" := by decide) (hyd : (y == ("__debug__" : Str)) = false := by decide)
    (ht : PP X r (.Tuple [.Name x pT, .Name y pT2] kt px) (.tup [.val (.ty T1), .val (.ty T2)]) := by exact pp_tup (aq_cons (pp_ty (by assumption) (by assumption)) (aq_cons (pp_ty (by assumption) (by assumption)) aq_nil)))
    (hs : starEach [a, .Tuple [.Name x pT, .Name y pT2] kt px] X.env = (false, eval a X.env) :: starEach [.Tuple [.Name x pT, .Name y pT2] kt px] X.env := by rfl) (hg : Gl X "isinstance" := by rfl) (hp : (backTo pos (starEach [.Tuple [.Name x pT, .Name y pT2] kt px] X.env)).any (·.1) = false := by rfl) :
    PB X r (.Call (.Name "isinstance" p) [a, .Tuple [.Name x pT, .Name y pT2] kt px] [] pos) (.bl (k1 || k2)) :=
  pb_call1 (v := .bl (k1 || k2)) (pe_callB call_isiT hg B.isi (by decide +kernel) cA (he := hs) (hpl := hp)) (ab2 ha (pb ht) hs rfl) (fun vs H Q k q => by
    cases k with
    | cons q1 q2 =>
      cases q2 with
      | cons q2 q3 =>
        cases q3
        cases q2 with
        | tup h1 h2 =>
          cases h2 with
          | cons e1 h2 =>
            cases h2 with
            | cons e2 h2 =>
              cases h2; cases e1; cases e2
              refine ⟨_, _, _, _, [.type T1, .type T2], k1 || k2, rfl, h1, .cons (.ty T1) (.cons (.ty T2) .nil), dt_ty q1 hn, ?_, q⟩
              have z1 : PySem.W.kitOne X.K (.type n) (.type T1) = some k1 := kit_ty hk
              have z2 : PySem.W.kitOne X.K (.type n) (.type T2) = some k2 := kit_ty hk2
              unfold PySem.W.kitAny PySem.W.kitAny PySem.W.kitAny
              rw [z1, z2]
              cases k1 <;> cases k2 <;> rfl) fun _ => .bl _
end
section
variable {X : Cx} {r : List Slot} {it : Expr} {ts : List Expr} {ds : List D} {body : List Stmt} {M : List Slot → Prop} {R : Slot → List Slot → Prop} {α : Type} [Inhabited α] {fs : α → List D} {as : List α}
theorem s1_forAG {fpos tpos : Pos} {kt : Nat} (I : Nat → List Slot) (J : Nat → α → List Slot) (ha : PP X r it (.lst ds)) (hds : ds = as.map fun w => .tup (fs w)) (h0 : Le r (I 0)) (hg : ∀ (k : Nat) (w : α), as[k]? = some w → GsQ X (I k) ts (fs w) (J k w))
    (hb : ∀ (k : Nat) (w : α), as[k]? = some w → HS X (J k w) body (fun r' => Le r' (I (k + 1))) R) (m : M (I as.length)) (hal : ∀ w, (assignEach ts X.env).length = (fs w).length := by intro _; rfl) (hst : (assignEach ts X.env).findIdx? (·.1) = none := by rfl)
    (hp : PassesOwn (model X.prog X.w) X.A X.env X.xe := by exact PassesOwn.never) (hc : X.calm = true := by rfl) (hfs : ∀ x, foldedSetIterable it X.env x = pure x := by intro _; rfl) :
    S1 X r (.For (.Tuple ts kt tpos) it body [] fpos) M R := by
  subst hds
  exact s1_forL I (fun k => J k (as.getD k default)) ha h0 (fun k d hd => by
    obtain ⟨w, hw, rfl⟩ := lists_get hd
    rw [getD_at hw]
    exact gq_t (hg k w hw) hc (hal w) hst) (fun k d hd => by
    obtain ⟨w, hw, rfl⟩ := lists_get hd
    rw [getD_at hw]
    exact hb k w hw) (by rw [List.length_map]; exact m) hp hc hfs
theorem s1_forTAG {fpos tpos : Pos} {kt : Nat} (I : Nat → List Slot) (J : Nat → α → List Slot) (ha : PP X r it (.tup ds)) (hds : ds = as.map fun w => .tup (fs w)) (h0 : Le r (I 0)) (hg : ∀ (k : Nat) (w : α), as[k]? = some w → GsQ X (I k) ts (fs w) (J k w))
    (hb : ∀ (k : Nat) (w : α), as[k]? = some w → HS X (J k w) body (fun r' => Le r' (I (k + 1))) R) (m : M (I as.length)) (hal : ∀ w, (assignEach ts X.env).length = (fs w).length := by intro _; rfl) (hst : (assignEach ts X.env).findIdx? (·.1) = none := by rfl)
    (hp : PassesOwn (model X.prog X.w) X.A X.env X.xe := by exact PassesOwn.never) (hc : X.calm = true := by rfl) (hfs : ∀ x, foldedSetIterable it X.env x = pure x := by intro _; rfl) :
    S1 X r (.For (.Tuple ts kt tpos) it body [] fpos) M R := by
  subst hds
  exact s1_forT I (fun k => J k (as.getD k default)) ha h0 (fun k d hd => by
    obtain ⟨w, hw, rfl⟩ := lists_get hd
    rw [getD_at hw]
    exact gq_t (hg k w hw) hc (hal w) hst) (fun k d hd => by
    obtain ⟨w, hw, rfl⟩ := lists_get hd
    rw [getD_at hw]
    exact hb k w hw) (by rw [List.length_map]; exact m) hp hc hfs
end
end DL

/-! Part 23: the text of plain data; a law's own def where no text is under way. -/
namespace DL
open PySem PySem.Spec PyProof.Rows L2
section
variable {X : Cx}
/-- str(x), x a list or tuple of plain data, nothing under way -/
theorem call_strD {k : Nat} (hg : X.A.guards = some []) (hr : Room k X.A) : CallR X (.type "str") (fun xs H Q => ∃ (a : Addr) (d : PyData), xs = [.ref a] ∧ Dp X.K H (.ref a) d ∧ d.showable = true ∧ d.hasDict = false ∧ d.depth ≤ 100 ∧ d.shown.length ≤ sizeLine ∧ Q (.str d.shown) H) := by
  intro pins s σ H xs us Q I r h
  obtain ⟨a, d, rfl, dp, hs, hd, hdp, hz, q⟩ := h
  obtain ⟨u, rfl, rx⟩ := vals1 r
  obtain ⟨as, rd⟩ := Dp.reads I d (.ref a) u dp rx
  cases (show u = Value.ref a from rx)
  exact str_of_reads rd hs (fun h => by rw [hd] at h; cases h) hg (by have := hr.un; omega) (fun b o e => e) (fun h' u tk hk => ⟨.str d.shown, H, I.kept hk, ⟨u, rfl⟩, q⟩) hz
end
section
variable {X : Cx} {r : List Slot} {a : Expr} {p pos : Pos} {d : D} {n : Nat}
/-- what str makes of it -/
structure Shw (n : Nat) (d : D) : Prop where
  pl : Pl n d
  ref : (∃ ds, d = .lst ds) ∨ ∃ ds, d = .tup ds
  sh : (toPy d).showable = true
  nd : (toPy d).hasDict = false
  sz : (toPy d).shown.length ≤ sizeLine
theorem pb_str {k : Nat} (B : Bi X.mg) (hg : X.A.guards = some []) (hr : Room k X.A) (ha : PB X r a d) (w : Shw n d) (hn : n ≤ 64 := by decide) (hs : starEach [a] X.env = (false, eval a X.env) :: starEach [] X.env := by rfl) (hgs : Gl X "str" := by rfl) (hp : (backTo pos (starEach [] X.env)).any (·.1) = false := by rfl) :
    PB X r (.Call (.Name "str" p) [a] [] pos) (.str (toPy d).shown) :=
  pb_call1 (v := .str (toPy d).shown) (pe_callTy (call_strD hg hr) hgs B.str (by decide +kernel) cA (he := hs) (hpl := hp)) (ab1 ha hs) (fun vs H Q k q => by
    cases k with
    | cons k1 k2 =>
      cases k2
      have dp := Dt.dp _ _ n w.pl k1
      have dl := (Pl.lay d n w.pl).2
      rcases w.ref with ⟨ds, rfl⟩ | ⟨ds, rfl⟩
      · cases k1 with
        | lst h1 h2 => exact ⟨_, _, rfl, dp, w.sh, w.nd, by omega, w.sz, q⟩
      · cases k1 with
        | tup h1 h2 => exact ⟨_, _, rfl, dp, w.sh, w.nd, by omega, w.sz, q⟩) fun _ => .str _
end
/-! ### the law's own def, called from where the claim stands -/
section
variable {P : Program} {w : World} {K : PySem.W.Frag} {mg : Str → Option Value} {base : Heap}
/-- what a def keeps when it is called at A -/
def RunAt (P : Program) (w : World) (K : PySem.W.Frag) (mg : Str → Option Value) (base : Heap) (A : Around) (f : Addr) (fd : FuncData) (ps : List Str) (sp : Sp) : Prop :=
  ∀ (outer : List Env) (s : Shared) (H : Hp) (args : Args) (us : List Value) (vs : List V) (Q : VK) (E : XK), Env0 P w K mg base A outer s H → BindsTo s fd args (ps.zip us) → Vals vs us → sp vs H Q E →
    codeAny (model P w) A (.call (.ref f) args) (L2.CR CX0 outer P w H s Q E) s
theorem run_at {x qual : Str} {st : Stmt} {f : Addr} {fd : FuncData} {N ps : List Str} {k : Nat} {sp : Sp} {A : Around} (hr : Room (k + 1) A) (F : Fun K x qual st f fd) (S : FnScope N ps (defScope st)) (len : ∀ vs H Q E, sp vs H Q E → vs.length = ps.length)
    (hbody : ∀ (cdv : Value) (outer : List Env) (s : Shared) (H : Hp) (vs : List V) (Q : VK) (E : XK), Room k (A.deeper (envOfC qual (defScope st) s.heap.objs.size f cdv)) → sp vs H Q E →
      ∃ t, PSs (cx0 P w K mg base N qual (defScope st) f cdv A outer s H E) (defBody st) t ∧ t { nx := fun _ H' => Q .non H', rt := Q } (L2.start N vs) H) : RunAt P w K mg base A f fd ps sp := by
  obtain ⟨oc, od, kV, doc, pm, an, cdv, ct, osl, rfl, lk, hcd⟩ := F.ex
  intro outer s H args us vs Q E e0 hb rv hsp
  have hl := len _ _ _ _ hsp
  have keep : ∀ b o, base.get? b = some o → s.heap.get? b = some o := fun b o e => (e0.bs b o e).1
  have KX : K.In s.heap := e0.mod.kin.keeps keep
  have hkind : ∀ y ∈ ps.zip us, (defScope st).names.lookup y.1 = some .local ∨ ((defScope st).names.lookup y.1 = some .cell ∧ ((cellsFrom (s.heap.objs.size + 1) (defScope st).names []).lookup y.1).isSome = true) := fun ⟨n, v⟩ hy =>
    (S.par n (List.of_mem_zip hy).1).elim .inl fun q => .inr ⟨q, PySem.W.cellsFrom_some _ _ _ (.inl q)⟩
  obtain ⟨t, ht, hq⟩ := hbody cdv outer s H vs Q E (hr.deeper _) hsp
  refine codeAny_call_function hr.depth (KX _ _ lk) rfl S.co S.gen rfl (PySem.W.codeRec_of KX hcd) (hb _ _ _ _ (wpAny_newFunctionEnv_cells S.kind hkind fun env he s1 x => ?_))
  subst he
  refine ⟨(e0.mod.nolimit.keeps keep).keeps x.toInCall.keep, codeAny_func ?_⟩
  have I : Inv (cxOf CX0 P w K mg base N qual (defScope st) f cdv A outer s H E) [] (L2.start N vs) H s1 := inv_start S hr.hd e0 hl rv x
  refine wpAny_mono (ht.nox.run [] s1 (L2.start N vs) H _ I hq) (fun fl s' hs => ?_) fun _ _ hs => hs
  cases fl with
  | ret u =>
    obtain ⟨v, σ', H', J, ru, q⟩ := hs
    exact ⟨v, H', J.os, J.bare, J.base, J.hok, ru, q⟩
  | next =>
    obtain ⟨σ', H', J, q⟩ := hs
    exact ⟨.non, H', J.os, J.bare, J.base, J.hok, rfl, q⟩
  | brk => exact (hs.choose_spec.choose_spec.2).elim
  | cont => exact (hs.choose_spec.choose_spec.2).elim
/-- the claim's call, the script a list that nothing else may be tracked beside -/
theorem law_at {mb : Str → Option Value} {fa a : Addr} {fd : FuncData} {x : Str} {sp : Sp} {s₁ : Shared} {vs : List Value} {ns : List Int} (KX : K.In s₁.heap) (hns : s₁.heap.Ns mainGlobals mg) (hb : s₁.heap.Ns builtinsNs mb) (hbb : ∀ x : Str, x ≠ "__name__" → mb x = bootBuiltins x) (hlim : s₁.heap.NoLimit) (hg : s₁.gens = #[])
    (ha : s₁.heap.get? a = some { cls := .type "list", data := .seq vs.toArray }) (hi : IntsAre vs ns) (hl : ns.length ≤ sizeLine) (F : ∀ base : Heap, K.In base → base.Ns mainGlobals mg → RunAt P w K mg base callerA fa fd [x] sp) (hbind : ∀ (s : Shared) (u : Value), BindsTo s fd ⟨[u], []⟩ [(x, u)])
    (hsp : ∀ H : Hp, Only H → SqL K H a (ns.map V.int) → sp [.ref a] H (fun v _ => v = .bl true) fun _ _ _ => False) :
    codeAny (model P w) callerA (.call (.ref fa) ⟨[.ref a], []⟩) (fun r s' => r = .ok (.ret (.bool true)) ∧ OldK s₁.heap s'.heap ∧ s'.os = s₁.os ∧ AllBare s'.gens) s₁ := by
  have rv := vals_ints hi
  -- what is tracked: the script, unless the module holds it
  let ob : Obj := { cls := .type "list", data := .seq vs.toArray }
  have both : ∃ H : Hp, Only H ∧ SqL K H a (ns.map V.int) ∧ HOk P w H s₁.heap ∧ ∀ b, H b ≠ none → b = a ∧ K.lookup b = none := by
    cases hk : K.lookup a with
    | some o =>
      have e := KX a o hk
      rw [ha] at e
      cases e
      exact ⟨fun _ => none, fun _ => .inl rfl, .inr ⟨_, vs.toArray, _, hk, rfl, rfl, rfl, by rw [List.size_toArray, hi.length]; exact hl, by simpa using rv⟩, (fun b u z => by cases (show (none : Option HO) = some u from z)), fun b z => absurd rfl z⟩
    | none =>
      have yes : ∀ b, b = a → (if b = a then some (HO.frz ob (.lst (ns.map V.int))) else none) = some (HO.frz ob (.lst (ns.map V.int))) := fun b e => if_pos e
      refine ⟨fun b => if b = a then some (.frz ob (.lst (ns.map V.int))) else none, fun b => ?_, .inl (.inr ⟨ob, yes a rfl⟩), fun b u z => ?_, fun b z => ?_⟩
      · by_cases c : b = a
        · exact .inr ⟨_, _, yes b c⟩
        · exact .inl (if_neg c)
      · by_cases c : b = a
        · have z' := (yes b c).symm.trans z
          cases z'
          subst c
          exact ⟨ha, by rw [List.length_map]; exact hl, vs, _, rv, ha⟩
        · cases (if_neg c).symm.trans z
      · by_cases c : b = a
        · subst c; exact ⟨rfl, hk⟩
        · exact absurd (if_neg c) z
  obtain ⟨H, hO, hS, hok, hA⟩ := both
  have plain : ∀ {b : Addr} {o : Obj}, s₁.heap.get? b = some o → b ≠ a → H b = none := fun {b o} _ ne => by
    cases q : H b with
    | none => rfl
    | some u => exact absurd (hA b (by rw [q]; exact fun z => by cases z)).1 ne
  have nsK : ∀ {b : Addr} {m : Str → Option Value}, s₁.heap.Ns b m → (hidT s₁.heap H).Ns b m := fun {b m} ⟨o, es, ep, e, d, r⟩ => ⟨o, es, ep, hidT_get e (plain e fun c => by
    rw [c, ha] at e; cases e
    cases (show Data.seq vs.toArray _ = Data.dict es ep from d)), d, r⟩
  have hKb : K.In (hidT s₁.heap H) := fun b o e => hidT_get (KX b o e) (by
    cases q : H b with
    | none => rfl
    | some u => rw [(hA b (by rw [q]; exact fun z => by cases z)).2] at e; cases e)
  have hM : Mod K mg (hidT s₁.heap H) := ⟨hKb, nsK hns, ⟨mb, nsK hb, hbb⟩, let ⟨mc, h1, h2⟩ := hlim; ⟨mc, nsK h1, h2⟩⟩
  have e0 : Env0 P w K mg (hidT s₁.heap H) callerA [] s₁ H := ⟨rfl, hM, fun b o e => of_hidT e, Nat.le_of_eq (hidT_size _ _), trivial, fun b hb => absurd (show b ∈ ([] : List Addr) from hb) (by simp), hok, .of_eq hg⟩
  refine codeAny_mono (F _ hKb (nsK hns) [] s₁ H ⟨[.ref a], []⟩ [.ref a] [.ref a] _ _ e0 (hbind s₁ (.ref a)) (.cons rfl .nil) (hsp H hO hS)) fun r s' h => ?_
  match r, h with
  | .error _, h => exact False.elim h
  | .ok .next, h => exact False.elim h
  | .ok .brk, h => exact False.elim h
  | .ok .cont, h => exact False.elim h
  | .ok (.ret u), h =>
    obtain ⟨v, H', os, bare, un, hok', r', q⟩ := h
    cases (show v = .bl true from q)
    cases (show u = Value.bool true from r')
    refine ⟨rfl, OldK.of_keep fun b o e => ?_, os, bare⟩
    cases q : H b with
    | none => exact un.keep b o e q (by intro z; exact absurd (show b ∈ ([] : List Addr) from z) (by simp)) (by simp)
    | some u =>
      rcases hO b with z | ⟨o1, xs, z⟩
      · rw [q] at z; cases z
      · obtain ⟨e1, _⟩ := hok b _ z
        obtain ⟨e2, _⟩ := hok' b _ (un.frzs b o1 _ z)
        rw [e] at e1; cases e1
        exact e2
end
/-- the claim, from the law's def as it runs where the claim calls it -/
theorem walk_at {l : PySem.W.OpenLaw} {n : Nat} {q : Program} {loose : List Str} {XP : (Str → Option Value) → Heap → Prop} {YP : World → Heap → Prop} {d : DefRec} {K : Params → PySem.W.Frag} {sp : World → Sp} {x : Str}
    (hn : l.most = some n) (hn2 : n ≤ sizeLine) (hdf : d.params.defaults = []) (hY : ∀ (w : World) (h : Heap), YP w h → (K w.params).In h)
    (F : ∀ (w : World) (mg : Str → Option Value) (fa : Addr) (h : Heap), (K w.params).In h → h.Ns mainGlobals mg → mg d.name = some (.ref fa) →
      ∃ fd : FuncData, (∀ (s : Shared) (u : Value), BindsTo s fd ⟨[u], []⟩ [(x, u)]) ∧ ∀ base : Heap, (K w.params).In base → base.Ns mainGlobals mg → RunAt l.prog w (K w.params) mg base callerA fa fd [x] (sp w))
    (hsp : ∀ (w : World) (H : Hp) (a : Addr) (ns : List Int), ns.length ≤ n → Only H → SqL (K w.params) H a (ns.map V.int) → sp w [.ref a] H (fun v _ => v = .bl true) fun _ _ _ => False) :
    PySem.W.WalkO q loose XP YP l.row.toRowW d [] (fun f vs => PySem.call f vs) := by
  refine Att.attach_call hn hdf fun w s₀ s₁ mg mb fa o pm cd doc a vs ns G Y ho hd hcd hmg hobj hints hlen hg => ?_
  obtain ⟨fd, hb, hF⟩ := F w mg fa _ (hY w _ Y) G.T.g hmg
  exact law_at (hY w _ Y) G.T.g G.T.b G.T.builtins G.T.nolimit hg hobj hints (Nat.le_trans hlen hn2) hF hb fun H hO hS => hsp w H a ns hlen hO hS
/-- the law's own def, as it stands, nothing under way -/
theorem ok_at {P : Program} {w : World} {K : PySem.W.Frag} {mg : Str → Option Value} {base : Heap} {x : Str} {st : Stmt} {ps N : List Str} {k : Nat} {C : Ct} {f : Addr} {fd : FuncData} (hr : Room (k + 1) callerA) (Fn : Fun K x x st f fd) (S : FnScope N ps (defScope st)) (hl : ∀ ds s, C ds s → ds.length = ps.length)
    (hb : ∀ ds s, C ds s → ∀ f cdv A outer s0 H E, A.guards = some [] → Room k (A.deeper (envOfC x (defScope st) s0.heap.objs.size f cdv)) →
      HS (cx0 P w K mg base N x (defScope st) f cdv A outer s0 H E) (entry N ds) (defBody st) (fun _ => s = .d .non) (fun s' _ => s' = s)) : RunAt P w K mg base callerA f fd ps (spC K C) :=
  run_at hr Fn S (fun vs H Q E h => by
    obtain ⟨G, ds, sl, gh, da, c, q⟩ := h
    rw [da.len]
    exact hl ds sl c) fun cdv outer s H vs Q E hr' h => by
      obtain ⟨G, ds, sl, gh, da, c, q⟩ := h
      refine ⟨_, cSs, hb ds sl c f cdv callerA outer s H E rfl hr' ⟨[], G, H⟩ G (L2.start N vs) H rfl ?_ _ (fun r' G' t' H' e A' => ?_) fun s' r' v t' G' H' e A' => ?_⟩
      · refine ⟨⟨Same.refl G, gh, fun _ _ q _ => q, fun _ _ q => q, fun _ z => by cases z⟩, [], ?_, by simp, fun a ha => by cases ha⟩
        unfold L2.start entry
        rw [da.len]
        exact slots_start _ da
      · subst e
        exact q .non H' ⟨r', t', G', A'.front .non⟩
      · subst e
        exact q v H' ⟨r', t', G', A'⟩
end DL

/-! Part 24: how long such a text is. -/
namespace DL
open PySem PySem.Spec PyProof.Rows L2
theorem from_len : ∀ (ts : List Str) (k : Nat) (acc : Str), (textFrom k acc ts).length ≤ acc.length + piled ts
  | [], _, acc => Nat.le_refl _
  | t :: ts, k, acc => by
    rw [piled_cons]
    refine Nat.le_trans (from_len ts _ _) ?_
    have e : ((", " : String) : Str).length = 2 := rfl
    have e0 : (("" : String) : Str).length = 0 := rfl
    by_cases c : k > 0
    · simp only [c, if_true, strLen_append, e]; omega
    · simp only [c, if_false, strLen_append, e0]; omega
theorem lst_len (ts : List Str) : (listText ts).length ≤ piled ts + 2 := by
  unfold listText
  rw [strLen_append]
  have h := from_len ts 0 "["
  have e1 : (("[" : String) : Str).length = 1 := rfl
  have e2 : (("]" : String) : Str).length = 1 := rfl
  rw [e1] at h
  rw [e2]; omega
theorem tup_len (ts : List Str) : (tupleText ts).length ≤ piled ts + 3 := by
  have e3 : (((if ts.length == 1 then ",)" else ")" : String) : Str)).length ≤ 2 := by split <;> decide +kernel
  have e1 : ((("(" : String) : Str)).length = 1 := rfl
  unfold tupleText
  rw [strLen_append, strLen_append, e1]
  by_cases h : ts = []
  · subst h
    show _ + (Str.join ", " []).length + _ ≤ _
    have : (Str.join ", " ([] : List Str)).length = 0 := rfl
    omega
  · have := join_length_add ts h
    omega
/-- None, or an int that is not too great -/
def Sm (d : D) : Prop := d = .non ∨ ∃ i : Int, d = .int i ∧ i.natAbs.log2 < 1920
theorem Sm.of {i : Int} (h0 : 0 ≤ i) (h : i < 2 ^ 200) : Sm (.int i) := .inr ⟨i, rfl, by
  by_cases c : i.natAbs = 0
  · rw [c]; decide
  · have h2 : i.natAbs < 2 ^ 200 := by omega
    have := (Nat.log2_lt c).mpr h2
    omega⟩
theorem sm_all : ∀ {l : List D}, (∀ d, d ∈ l → Sm d) → PyData.showableAll (toPys l) = true ∧ PyData.hasDictAll (toPys l) = false ∧ piled (PyData.shownAll (toPys l)) ≤ 2000 * l.length
  | [], _ => ⟨rfl, rfl, Nat.le_refl _⟩
  | d :: l, h => by
    obtain ⟨a1, a2, a3⟩ := sm_all (l := l) fun x hx => h x (List.mem_cons_of_mem _ hx)
    have hd : (toPy d).showable = true ∧ (toPy d).hasDict = false ∧ (toPy d).shown.length ≤ 1921 := by
      rcases h d (List.mem_cons_self ..) with rfl | ⟨i, rfl, hi⟩
      · exact ⟨rfl, rfl, by decide +kernel⟩
      · exact ⟨decide_eq_true hi, rfl, int_text_len_1921 hi⟩
    refine ⟨?_, ?_, ?_⟩
    · show (_ && _) = true
      rw [hd.1, a1]; rfl
    · show (_ || _) = false
      rw [hd.2.1, a2]; rfl
    · show piled (_ :: _) ≤ _
      rw [piled_cons, List.length_cons]
      have := hd.2.2
      omega
theorem sm_pl {d : D} {n : Nat} (h : Sm d) : Pl n d := by
  rcases h with rfl | ⟨i, rfl, _⟩
  · exact .non
  · exact .int
theorem shw_lst {l : List D} (h : ∀ d, d ∈ l → Sm d) (hl : l.length ≤ 1000) : Shw 1 (.lst l) := by
  obtain ⟨a1, a2, a3⟩ := sm_all h
  refine ⟨.lst fun d hd => sm_pl (h d hd), .inl ⟨l, rfl⟩, a1, a2, ?_⟩
  show (listText (PyData.shownAll (toPys l))).length ≤ _
  have := lst_len (PyData.shownAll (toPys l))
  rw [sizeLine_eq]; omega
theorem shw_tup {l : List D} (h : ∀ d, d ∈ l → Sm d) (hl : l.length ≤ 1000) : Shw 1 (.tup l) := by
  obtain ⟨a1, a2, a3⟩ := sm_all h
  refine ⟨.tup fun d hd => sm_pl (h d hd), .inr ⟨l, rfl⟩, a1, a2, ?_⟩
  show (tupleText (PyData.shownAll (toPys l))).length ≤ _
  have := tup_len (PyData.shownAll (toPys l))
  rw [sizeLine_eq]; omega
end DL

/-! Part 25: calls that look at lists of ours and hand back tuples. -/
namespace DL
open PySem PySem.Spec PyProof.Rows L2
/-- no list within -/
inductive NoL : D → Prop
  | non : NoL .non
  | bl {b : Bool} : NoL (.bl b)
  | int {i : Int} : NoL (.int i)
  | str {x : Str} : NoL (.str x)
  | tup {ds : List D} : (∀ d, d ∈ ds → NoL d) → NoL (.tup ds)
mutual
theorem NoL.to {K : PySem.W.Frag} {G G' : Hp} (k : ∀ a vs, G a = some (.tup vs) → G' a = some (.tup vs)) : ∀ (d : D) (v : V), NoL d → Dt K G v d → Dt K G' v d
  | .non, _, _, h => by cases h; exact .non
  | .bl _, _, _, h => by cases h; exact .bl _
  | .int _, _, _, h => by cases h; exact .int _
  | .str _, _, _, h => by cases h; exact .str _
  | .tup ds, _, n, h => by
    cases n with
    | tup n => cases h with
      | tup h1 h2 => exact .tup (k _ _ h1) (NoL.tos k ds _ n h2)
  | .lst _, _, n, _ => by cases n
  | .scr _, _, n, _ => by cases n
  | .val _, _, n, _ => by cases n
  | .ins _ _ _, _, n, _ => by cases n
  | .fn _, _, n, _ => by cases n
  | .dct, _, n, _ => by cases n
theorem NoL.tos {K : PySem.W.Frag} {G G' : Hp} (k : ∀ a vs, G a = some (.tup vs) → G' a = some (.tup vs)) : ∀ (ds : List D) (vs : List V), (∀ d, d ∈ ds → NoL d) → DtAll K G vs ds → DtAll K G' vs ds
  | [], _, _, h => by cases h; exact .nil
  | d :: ds, _, n, h => by
    cases h with
    | cons h1 h2 => exact .cons (NoL.to k d _ (n d (List.mem_cons_self ..)) h1) (NoL.tos k ds _ (fun x hx => n x (List.mem_cons_of_mem _ hx)) h2)
end
/-- arguments: known data, and lists of ours looked at -/
def AL (X : Cx) (r : List Slot) (es : List Expr) (ds : List D) : Prop := ∀ (F : Fr) (G : Hp) (t : L2.St) (H : Hp), At X.K F G r t H → ∀ Q : List V → Hp → Prop,
  (∀ vs G' H' G'', Ext G H G' H' → Same G' G'' → Same G'' H' → (∀ a, G' a = none → G'' a ≠ none → ∃ ls, G'' a = some (.lst ls)) → DtAll X.K G'' vs ds → Q vs H') → tAr X es t H Q
section
variable {X : Cx} {r : List Slot} {e : Expr} {es : List Expr} {pos p px : Pos} {d : D} {ds xs dD : List D} {x y : Str} {k : Nat} {C : Ct}
theorem al_nil : AL X r [] [] := fun F G t H A Q q => oA pa_nil (q [] G H G (Ext.refl A.gh) (Same.refl G) A.gh (fun a n m => absurd n m) .nil)
theorem al_p (ha : PP X r e d) (hr : AL X r es ds) (hs : starEach (e :: es) X.env = (false, eval e X.env) :: starEach es X.env := by rfl) : AL X r (e :: es) (d :: ds) := fun F G t H A Q q =>
  oA (pa_cons cE cA hs) (ha F G t H A _ fun v G1 H1 e1 k1 => hr F G1 t H1 (A.ext e1) _ fun vs G2 H2 G3 e2 s2 h2 n2 k2 => q (v :: vs) G2 H2 G3 (e1.trans e2) s2 h2 n2 (.cons (Dt.mono (e2.g.trans s2) _ _ k1) k2))
theorem al_w (i : Nat) (hr : AL X r es ds) (hi : r[i]? = some (.o xs) := by rfl) (hN : X.N[i]? = some x := by rfl) (hv : Vis X.env.scope x := by first | exact Or.inl rfl | exact Or.inr (Or.inl rfl) | exact Or.inr (Or.inr rfl)) (hd : (x == ("__debug__" : Str)) = false := by decide) (hcd : (x == ("__classdict__" : Str)) = false := by decide)
    (hs : starEach (.Name x px :: es) X.env = (false, eval (.Name x px) X.env) :: starEach es X.env := by rfl) : AL X r (.Name x px :: es) (.lst xs :: ds) := fun F G t H A Q q => by
  obtain ⟨v, fp0, h1, so, _, gn, _⟩ := A.rep hi
  obtain ⟨v', rfl, l, us, rfl, rfl, k1, k2⟩ := so
  have gl := gn l (by simp)
  refine oA (pa_cons (pe_var hN hv hd hcd) cA hs) ⟨_, h1, hr F G t H A _ fun vs G2 H2 G3 e2 s2 h2 n2 kk => ?_⟩
  have hl : H2 l = some (.lst us) := e2.h _ _ k1
  have gl2 : G2 l = none := e2.nw l (by rw [k1]; exact fun z => by cases z) gl
  have s3 : Same G3 (upd G3 l (.lst us)) := fun a o z => by
    by_cases c : a = l
    · subst c
      have := h2 _ _ z
      rw [hl] at this
      cases this
      exact upd_same
    · rw [upd_ne c]; exact z
  refine q (.ref l :: vs) G2 H2 (upd G3 l (.lst us)) e2 (s2.trans s3) (fun a o z => ?_) (fun a n m => ?_) (.cons (.lst upd_same (DtAll.mono ((e2.g.trans s2).trans s3) _ _ k2)) (DtAll.mono s3 _ _ kk))
  · by_cases c : a = l
    · subst c; rw [upd_same] at z; cases z; exact hl
    · rw [upd_ne c] at z; exact h2 a o z
  · by_cases c : a = l
    · subst c; exact ⟨us, upd_same⟩
    · rw [upd_ne c] at m ⊢; exact n2 a n m
/-- f(..) hands back what holds no list -/
theorem pp_callL (h : Has X.prog X.w X.K X.mg X.base k x dD C) (hr : Room k X.A) (ha : AL X r (e :: es) ds) (hc : C (ds ++ dD) (.d d)) (nl : NoL d) (hg : Gl X x := by rfl) (hdb : (x == ("__debug__" : Str)) = false := by decide)
    (he : starEach (e :: es) X.env = (false, eval e X.env) :: starEach es X.env := by rfl) (hpl : (backTo pos (starEach es X.env)).any (·.1) = false := by rfl) : PP X r (.Call (.Name x p) (e :: es) [] pos) d := fun F G t H A Q q => by
  obtain ⟨dvs, da, pe⟩ := call_of h hr hg hdb he hpl
  refine oE pe (ha F G t H A _ fun vs G1 H1 G2 e1 s2 h2 n2 k1 => ⟨G2, ds ++ dD, .d d, h2, k1.app (da G2), hc, fun v H' ret => ?_⟩)
  obtain ⟨G3, e3, k3⟩ := ret.ext
  let G4 : Hp := fun a => if G2 a ≠ none ∧ G1 a = none then none else G3 a
  have out : ∀ a, (G2 a ≠ none ∧ G1 a = none) → G4 a = none := fun a c => if_pos c
  have inn : ∀ a, ¬ (G2 a ≠ none ∧ G1 a = none) → G4 a = G3 a := fun a c => if_neg c
  refine q v G4 H' (e1.trans ⟨fun a o z => ?_, fun a o z => ?_, e3.h, fun a ha hg => ?_⟩) (NoL.to (fun a us z => ?_) d v nl k3)
  · rw [inn a fun c => by rw [c.2] at z; cases z]
    exact e3.g a o (s2 a o z)
  · by_cases c : G2 a ≠ none ∧ G1 a = none
    · rw [out a c] at z; cases z
    · rw [inn a c] at z; exact e3.gh a o z
  · by_cases c : G2 a ≠ none
    · exact out a ⟨c, hg⟩
    · rw [inn a fun z => c z.1]
      exact e3.nw a ha (Classical.byContradiction c)
  · rw [inn a fun c => by
      obtain ⟨ls, hl⟩ := n2 a c.2 c.1
      have := e3.g _ _ hl
      rw [z] at this; cases this]
    exact z
end
end DL

/-! Part 26: a new tuple of new lists, handed back. -/
namespace DL
open PySem PySem.Spec PyProof.Rows L2
abbrev twoF (xs ys : List D) : List (Str × Fld) := [("0", .o xs), ("1", .o ys)]
section
variable {X : Cx} {r : List Slot} {e : Expr} {es : List Expr} {pos p px py pz : Pos} {kt : Nat} {ds xs ys dD : List D} {x y : Str} {k : Nat} {Ct0 : Ct} {rest : List Stmt} {N : List Slot → Prop} {R : Slot → List Slot → Prop}
/-- return (x, y), both lists of ours -/
theorem hs_retT2 (i j : Nat) (m : R (.tp (twoF xs ys)) ((r.set i .un).set j .un)) (hij : i ≠ j := by decide) (hi : r[i]? = some (.o xs) := by rfl) (hj : r[j]? = some (.o ys) := by rfl) (hN : X.N[i]? = some x := by rfl) (hN2 : X.N[j]? = some y := by rfl)
    (hv : Vis X.env.scope x := by first | exact Or.inl rfl | exact Or.inr (Or.inl rfl) | exact Or.inr (Or.inr rfl)) (hv2 : Vis X.env.scope y := by first | exact Or.inl rfl | exact Or.inr (Or.inl rfl) | exact Or.inr (Or.inr rfl))
    (hd : (x == ("__debug__" : Str)) = false := by decide) (hcd : (x == ("__classdict__" : Str)) = false := by decide) (hd2 : (y == ("__debug__" : Str)) = false := by decide) (hcd2 : (y == ("__classdict__" : Str)) = false := by decide)
    (hs1 : starEach [.Name x px, .Name y py] X.env = (false, eval (.Name x px) X.env) :: starEach [.Name y py] X.env := by rfl) (hs2 : starEach [.Name y py] X.env = (false, eval (.Name y py) X.env) :: starEach [] X.env := by rfl) :
    HS X r (.Return (some (.Tuple [.Name x px, .Name y py] kt pz)) pos :: rest) N R := hs_cons (M := fun _ => False) (fun F G t H nl A D n q => by
  obtain ⟨k, fp, sl, nd, fr⟩ := A
  obtain ⟨v, f1, f0, f2, a1, a2, a3, a4⟩ := sl.split hi
  obtain ⟨v', rfl, p1, us, rfl, rfl, h1, d1⟩ := a3
  have sl1 := a4 G H .un (some (.ref p1)) [] (Same.refl G) (fun _ _ _ w => w) rfl
  have e1 : t.set i (some (.ref p1)) = t := by
    obtain ⟨hlt, he⟩ := List.getElem?_eq_some_iff.mp a1
    rw [← he]; exact List.set_getElem_self hlt
  rw [e1] at sl1
  obtain ⟨v, g1, g0, g2, b1, b2, b3, b4⟩ := sl1.split (i := j) (s := .o ys) (by rw [List.getElem?_set_ne hij]; exact hj)
  obtain ⟨v', rfl, p2, ws, rfl, rfl, h2, d2⟩ := b3
  have sl2 := b4 G H .un (some (.ref p2)) [] (Same.refl G) (fun _ _ _ w => w) rfl
  have e2 : t.set j (some (.ref p2)) = t := by
    obtain ⟨hlt, he⟩ := List.getElem?_eq_some_iff.mp b1
    rw [← he]; exact List.set_getElem_self hlt
  rw [e2] at sl2
  have nd1 : (f1 ++ f2).Nodup ∧ p1 ∉ f1 ++ f2 := by
    rw [a2] at nd
    have := (List.perm_append_comm_assoc f1 [p1] f2).nodup_iff.mp nd
    rw [List.singleton_append, List.nodup_cons] at this
    exact ⟨this.2, this.1⟩
  have nd2 : (g1 ++ g2).Nodup ∧ p2 ∉ g1 ++ g2 := by
    have n1 := nd1.1
    rw [show f1 ++ f2 = g1 ++ ([p2] ++ g2) from b2] at n1
    have := (List.perm_append_comm_assoc g1 [p2] g2).nodup_iff.mp n1
    rw [List.singleton_append, List.nodup_cons] at this
    exact ⟨this.2, this.1⟩
  have mem1 : ∀ a, a ∈ g1 ++ ([p2] ++ g2) → a ∈ f1 ++ f2 := fun a ha => by rw [show f1 ++ f2 = g1 ++ ([p2] ++ g2) from b2]; exact ha
  have memg : ∀ a, a ∈ g1 ++ g2 → a ∈ f1 ++ f2 := fun a ha => mem1 a (by
    rcases List.mem_append.mp ha with z | z
    · exact List.mem_append_left _ z
    · exact List.mem_append_right _ (List.mem_append_right _ z))
  have memf : ∀ a, a ∈ f1 ++ f2 → a ∈ fp := fun a ha => by
    rw [a2]
    rcases List.mem_append.mp ha with z | z
    · exact List.mem_append_left _ z
    · exact List.mem_append_right _ (List.mem_append_right _ z)
  have mp1 : p1 ∈ fp := by rw [a2]; simp
  have mp2 : p2 ∈ f1 ++ f2 := mem1 p2 (by simp)
  refine oS (ps_ret (pe_tup (pa_cons (pe_var hN hv hd hcd) (pa_cons (pe_var hN2 hv2 hd2 hcd2) pa_nil hs2) hs1))) ⟨_, a1, _, b1, by rw [sizeLine_eq]; show 2 ≤ _; decide, fun T hT => ?_⟩
  have eT : Ext G H G (upd H T (.tup [.ref p1, .ref p2])) := Ext.newO k.gh hT
  have neT : ∀ a, a ∈ fp → a ≠ T := fun a ha c => sl.has a ha (by rw [c]; exact hT)
  have fT : F.H T = none := by
    cases z : F.H T with
    | none => rfl
    | some o => exact absurd hT (k.ne (by rw [z]; exact fun w => by cases w))
  have fr2 : ∀ a, a ∈ fp → G a = none ∧ (F.H a = none ∨ a ∈ F.L) := fr
  refine q (.tp (twoF xs ys)) _ _ t G _ m ⟨k.ext eT, (T :: ([p1] ++ ([p2] ++ []))) ++ (g1 ++ g2), .cons ⟨T, [("0", .ref p1), ("1", .ref p2)], [p1] ++ ([p2] ++ []), rfl, rfl, upd_same, .cons ⟨p1, us, rfl, rfl, by rw [upd_ne (neT p1 mp1)]; exact h1, d1⟩ (.cons ⟨p2, ws, rfl, rfl, by rw [upd_ne (neT p2 (memf p2 mp2))]; exact h2, d2⟩ .nil)⟩ (sl2.frame (Same.refl G) fun a o ha w => by rw [upd_ne (neT a (memf a (memg a ha)))]; exact w), ?_, fun a ha => ?_⟩
  · rw [List.nodup_append]
    refine ⟨?_, nd2.1, fun a ha b hb c => ?_⟩
    · refine List.nodup_cons.mpr ⟨fun z => ?_, ?_⟩
      · rcases (by simpa using z : T = p1 ∨ T = p2) with c | c
        · exact neT p1 mp1 c.symm
        · exact neT p2 (memf p2 mp2) c.symm
      · refine List.nodup_cons.mpr ⟨fun z => ?_, by simp⟩
        have : p1 = p2 := by simpa using z
        exact nd1.2 (by rw [this]; exact mp2)
    · subst c
      rcases (by simpa using ha : a = T ∨ a = p1 ∨ a = p2) with c | c | c
      · exact neT a (memf a (memg a hb)) c
      · exact nd1.2 (c ▸ memg a hb)
      · exact nd2.2 (c ▸ hb)
  · rcases List.mem_append.mp ha with z | z
    · rcases (by simpa using z : a = T ∨ a = p1 ∨ a = p2) with c | c | c
      · rw [c]; exact ⟨k.gh.free hT, .inl fT⟩
      · rw [c]; exact fr p1 mp1
      · rw [c]; exact fr p2 (memf p2 mp2)
    · exact fr a (memf a (memg a z))) fun _ h => h.elim
/-- f(..)[0] -/
theorem po_tp0 {pi : Pos} (h : Has X.prog X.w X.K X.mg X.base k x dD Ct0) (hr : Room k X.A) (ha : AB X r (e :: es) ds) (hc : Ct0 (ds ++ dD) (.tp (twoF xs ys))) (sc : ∀ d, d ∈ xs → Sc d) {kc : Nat} (hg : Gl X x := by rfl) (hdb : (x == ("__debug__" : Str)) = false := by decide)
    (he : starEach (e :: es) X.env = (false, eval e X.env) :: starEach es X.env := by rfl) (hpl : (backTo pos (starEach es X.env)).any (·.1) = false := by rfl) (hs : PlainIx (.Constant (.int 0) kc pi) := by exact fun _ _ => rfl) : PO X r (.Subscript (.Call (.Name x p) (e :: es) [] pos) (.Constant (.int 0) kc pi) py) xs := fun F G t H A Q q => by
  obtain ⟨dvs, da, pe⟩ := call_of h hr hg hdb he hpl
  refine oE (pe_ix ix_tup pe cE hs) (ha F G t H A _ fun vs G1 H1 e1 k1 => ⟨H1, ds ++ dD, _, Same.refl H1, k1.app (da H1), hc, fun v H' ret => ?_⟩)
  obtain ⟨r', t', G', o, fp, sl, nd, fr⟩ := ret
  cases sl with
  | cons h1 _ =>
    obtain ⟨T, us, fps, ev, rfl, hT, fk⟩ := h1
    cases ev
    cases fk with
    | cons q1 fk =>
      obtain ⟨p1, ls, rfl, rfl, hp1, dl⟩ := q1
      cases fk with
      | cons q2 fk =>
        cases fk
        have z := fr p1 (by simp)
        have n1 : H1 p1 = none := z.2.elim id fun w => by cases w
        have hH : Same H1 H' := fun a u w => o.h a u w (by simp)
        have A1 : At X.K F G1 r t H' := (A.ext e1).ext ⟨Same.refl G1, e1.gh.trans hH, hH, fun _ _ w => w⟩
        refine pb_n (X := X) (r := r) F G1 t H' A1 _ fun w G2 H2 e2 k2 => ?_
        cases k2
        refine ⟨T, _, 0, .ref p1, rfl, rfl, SqT.of (e2.h _ _ hT), rfl, ?_⟩
        have e3 : Ext G H G2 H2 := (e1.trans ⟨Same.refl G1, e1.gh.trans hH, hH, fun _ _ w => w⟩).trans e2
        exact q p1 ls G2 H2 e3 (e1.h.free n1) (e3.nw p1 |> fun _ => e2.nw p1 (by rw [hp1]; exact fun z => by cases z) (e1.gh.free n1)) (e2.h _ _ hp1) (dl.scAny sc)
end
end DL

/-! Part 27: for over range(a, b, c). -/
namespace DL
open PySem PySem.Spec PyProof.Rows L2
section
variable {X : Cx} {r : List Slot} {a b c : Expr} {p px pos : Pos} {x : Str} {body : List Stmt} {M : List Slot → Prop} {R : Slot → List Slot → Prop}
theorem s1_forR3 {fpos : Pos} {lo hi st : Int} {n : Nat} (B : Bi X.mg) (i : Nat) {s : Nat → Slot} (nd : X.N.Nodup) (I : Nat → List Slot) (ha : PB X r a (.int lo)) (hb' : PB X r b (.int hi)) (hc' : PB X r c (.int st)) (hn : RgC lo hi st n) (h0 : Le r (I 0)) (hb : ∀ k : Nat, k < n → HS X ((I k).set i (.d (.int (lo + (k : Nat) * st)))) body (fun r' => Le r' (I (k + 1))) R) (m : M (I n))
    (hr : ∀ k, (I k)[i]? = some (s k) := by intro _; rfl) (hN : X.N[i]? = some x := by rfl) (hx : Loc X.env.scope x := by first | exact Or.inl rfl | exact Or.inr rfl) (hf : X.fn x = true ∨ X.env.scope.names.lookup x = some .local := by first | exact .inl rfl | exact .inr rfl)
    (hp : PassesOwn (model X.prog X.w) X.A X.env X.xe := by exact PassesOwn.never) (hc : X.calm = true := by rfl) (hg : Gl X "range" := by rfl) (hs : starEach [a, b, c] X.env = (false, eval a X.env) :: starEach [b, c] X.env := by rfl) (hs2 : starEach [b, c] X.env = (false, eval b X.env) :: starEach [c] X.env := by rfl) (hs3 : starEach [c] X.env = (false, eval c X.env) :: starEach [] X.env := by rfl)
    (hpl : (backTo pos (starEach [b, c] X.env)).any (·.1) = false := by rfl) (hfs : ∀ x, foldedSetIterable (.Call (.Name "range" p) [a, b, c] [] pos) X.env x = pure x := by intro _; rfl) :
    S1 X r (.For (.Name x px) (.Call (.Name "range" p) [a, b, c] [] pos) body [] fpos) M R := fun F G t H nl A D nx q => by
  refine oS (ps_for hp hc (pi_range3 hg B.range cA hs hpl) (pg_name nd hN hx hf) cSs hfs) (ab_cons ha (ab_cons hb' (ab_cons hc' ab_nil hs3) hs2) hs F G t H A _ fun vs G1 H1 e1 k1 => ?_)
  cases k1 with
  | cons k1 k2 =>
    cases k2 with
    | cons k2 k3 =>
      cases k3 with
      | cons k3 k4 =>
        cases k4; cases k1; cases k2; cases k3
        refine ⟨lo, hi, st, n, rfl, hn, for_it (walk_rangeC (lo := lo) (c := st) (n := n)) (fun k t' H' => ∃ G', At X.K F G' (I k) t' H') ?_ (fun _ _ _ _ _ => trivial) ?_ ?_⟩
        · obtain ⟨G', _, A'⟩ := (A.ext e1).le h0 nl
          exact ⟨G', A'⟩
        · rintro k v t' H' H'' hk ⟨G', A'⟩ ⟨rfl, rfl⟩
          have A2 := A'.asg (v := .int (lo + (k : Nat) * st)) (d := .int (lo + (k : Nat) * st)) (hr k) (.int _)
          exact hb k hk F G' _ _ nl A2 { D with nx := _, ct := _, bk := _ } (fun r2 G2 t2 H2 l A3 => by
            obtain ⟨G3, _, A4⟩ := A3.le l nl
            exact ⟨G3, A4⟩) q
        · rintro t' H' ⟨G', A'⟩
          exact nx _ G' t' H' m A'
end
end DL

/-! Part 28: exceptions. -/
namespace DL
open PySem PySem.Spec PyProof.Rows L2
/-- an own class of errors, without an own __init__ -/
structure Exn (K : PySem.W.Frag) (mg : Str → Option Value) (x : Str) (C : Addr) : Prop where
  g : mg x = some (.ref C)
  q : PySem.W.excIn K C [.type "ValueError", .type "Exception", .type "BaseException", .type "object"] "ValueError.__new__" = true
  k : PySem.W.keepIn K (.ref C) = true
  b : PySem.W.subIn K (.ref C) (.type "BaseException") = some true
  t : PySem.W.typeIn K (.ref C) = some (.type "type")
theorem exn_mk {K : PySem.W.Frag} {mg : Str → Option Value} {h : Heap} {x : Str} {C : Addr} (X : K.In h) (G : h.Ns mainGlobals mg) (a : PySem.W.nsIn K mainGlobals x = some (some (.ref C)))
    (q : PySem.W.excIn K C [.type "ValueError", .type "Exception", .type "BaseException", .type "object"] "ValueError.__new__" = true) (k : PySem.W.keepIn K (.ref C) = true) (b : PySem.W.subIn K (.ref C) (.type "BaseException") = some true) (t : PySem.W.typeIn K (.ref C) = some (.type "type")) : Exn K mg x C :=
  ⟨PySem.W.mg_of X G a, q, k, b, t⟩
/-- an except clause that names C catches c -/
structure Cat (K : PySem.W.Frag) (c C : Addr) (b : Bool) : Prop where
  is : PySem.W.exmOne K (.ref c) (.ref C) = some b
theorem cat_mk {K : PySem.W.Frag} {c C : Addr} {b : Bool} (h1 : PySem.W.subIn K (.ref C) (.type "BaseException") = some true) (hd : PySem.W.hasDictIn K C = true) (ht : PySem.W.typeIn K (.ref C) = some (.type "type")) (h4 : PySem.W.subIn K (.ref c) (.ref C) = some b) : Cat K c C b := ⟨PySem.W.exm_ref h1 hd ht h4⟩
section
variable {X : Cx} {t : L2.St} {H : Hp}
theorem nE {e : Expr} {Q : VK} (h : tE X.nox e t H Q) : tE X e t H Q := oE (PE.nox cE) h
theorem nT {e : Expr} {Q : Bool → Hp → Prop} (h : tT X.nox e t H Q) : tT X e t H Q := oT (PT.nox cT) h
theorem nSs {st : List Stmt} {D : Ends} (h : tSs X.nox st D t H) : tSs X st D t H := oSs (PSs.nox cSs) h
theorem nS {st : Stmt} {D : Ends} (h : tS X.nox st D t H) : tS X st D t H := by
  unfold tS at h ⊢
  exact fun pins s I => wpAny_mono (h pins s (I.wish _)) (fun _ _ q => q.unwish) fun _ _ z => False.elim z
theorem nA {es : List Expr} {Q : List V → Hp → Prop} (h : tAr X.nox es t H Q) : tAr X es t H Q := by
  unfold tAr at h ⊢
  exact fun pos pins s I => wpAny_mono (h pos pins s (I.wish _)) (fun _ _ ⟨v, H', I', r, q⟩ => ⟨v, H', I'.unwish, r, q⟩) fun _ _ z => False.elim z
end
/-- the expression raises an error of the class c -/
def PX (X : Cx) (r : List Slot) (e : Expr) (c : Addr) : Prop := ∀ (F : Fr) (G : Hp) (t : L2.St) (H : Hp), At X.K F G r t H → ∀ (Q : VK) (W : WX), Takes X W →
  (∀ G' H', Ext G H G' H' → W (.ref c) none t H') → tE X e t H Q
/-- the statements raise an error of the class c -/
def HX (X : Cx) (r : List Slot) (sts : List Stmt) (c : Addr) (M : List Slot → Prop) : Prop := ∀ (F : Fr) (G : Hp) (t : L2.St) (H : Hp), F.L = [] → At X.K F G r t H → ∀ (D : Ends) (W : WX), Takes X W →
  (∀ r' G' t' H', M r' → At X.K F G' r' t' H' → W (.ref c) none t' H') → tSs X sts D t H
/-- a def's contract where it raises -/
abbrev CtX := List D → Addr → Prop
def spX (K : PySem.W.Frag) (C : CtX) : Sp := fun vs H _ E => ∃ G ds c, Same G H ∧ DtAll K G vs ds ∧ C ds c ∧ ∀ G' H', Ext G H G' H' → E (.ref c) none H'
structure HasX (P : Program) (w : World) (K : PySem.W.Frag) (mg : Str → Option Value) (base : Heap) (k : Nat) (x : Str) (dD : List D) (C : CtX) : Prop where
  ex : ∃ f fd ps dvals dvs, FnOk P w K mg base (L2.CX P w) k f fd ps (spX K C) ∧ mg x = some (.ref f) ∧ PySem.W.keepIn K (.ref f) = true ∧ Binds K fd ps dvals ∧ Vals dvs dvals ∧ ∀ G, DtAll K G dvs dD
theorem HasX.mono {P : Program} {w : World} {K : PySem.W.Frag} {mg : Str → Option Value} {base : Heap} {j k : Nat} {x : Str} {dD : List D} {C : CtX} (h : HasX P w K mg base j x dD C) (l : j ≤ k) : HasX P w K mg base k x dD C := by
  obtain ⟨f, fd, ps, dvals, dvs, F, r⟩ := h
  exact ⟨f, fd, ps, dvals, dvs, F.mono l, r⟩
/-- the context of a def's body that may raise -/
abbrev cxX (P : Program) (w : World) (K : PySem.W.Frag) (mg : Str → Option Value) (base : Heap) (N : List Str) (qual : Str) (sc : Scope) (f : Addr) (cdv : Value) (A : Around) (outer : List Env) (s : Shared) (H : Hp) (E : XK) : Cx := cxOf (L2.CX P w) P w K mg base N qual sc f cdv A outer s H E
section
variable {P : Program} {w : World} {K : PySem.W.Frag} {mg : Str → Option Value} {base : Heap}
theorem fnx_body {qual : Str} {sc : Scope} {f : Addr} {N : List Str} {body : List Stmt} {k : Nat} {C : CtX}
    (hb : ∀ ds c, C ds c → ∀ cdv A outer s0 H E, Room k (A.deeper (envOfC qual sc s0.heap.objs.size f cdv)) → HX (cxX P w K mg base N qual sc f cdv A outer s0 H E) (entry N ds) body c (fun _ => True))
    (cdv : Value) (A : Around) (outer : List Env) (s : Shared) (H : Hp) (vs : List V) (Q : VK) (E : XK) (hr : Room k (A.deeper (envOfC qual sc s.heap.objs.size f cdv))) (h : spX K C vs H Q E) :
    ∃ t, PSs (cxX P w K mg base N qual sc f cdv A outer s H E) body t ∧ t { nx := fun _ H' => Q .non H', rt := Q } (L2.start N vs) H := by
  obtain ⟨G, ds, c, gh, da, hc, q⟩ := h
  refine ⟨_, cSs, hb ds c hc cdv A outer s H E hr ⟨[], G, H⟩ G (L2.start N vs) H rfl ?_ _ (fun cls d _ H => E cls d H) (takes_of rfl rfl rfl rfl) fun r' G' t' H' _ A' => ?_⟩
  · refine ⟨⟨Same.refl G, gh, fun _ _ q _ => q, fun _ _ q => q, fun _ z => by cases z⟩, [], ?_, by simp, fun a ha => by cases ha⟩
    unfold L2.start entry
    rw [da.len]
    exact slots_start _ da
  · exact q G' H' ⟨A'.ok.g, A'.ok.gh, fun a u z => A'.ok.h a u z (by simp), A'.ok.nw⟩
theorem has_defX {x : Str} {st : Stmt} {ps N : List Str} {k : Nat} {C : CtX} (T : Df K mg x st ps) (S : FnScope N ps (defScope st)) (hl : ∀ ds c, C ds c → ds.length = ps.length)
    (hb : ∀ ds c, C ds c → ∀ f cdv A outer s0 H E, Room k (A.deeper (envOfC x (defScope st) s0.heap.objs.size f cdv)) → HX (cxX P w K mg base N x (defScope st) f cdv A outer s0 H E) (entry N ds) (defBody st) c (fun _ => True)) : HasX P w K mg base (k + 1) x [] C := by
  obtain ⟨f, fd, F, hm, b⟩ := T
  refine ⟨f, fd, ps, [], [], F.okX S (fun vs H Q E h => ?_) (fnx_body fun ds c hc => hb ds c hc f), hm, F.kp, b, .nil, fun _ => .nil⟩
  obtain ⟨G, ds, c, gh, da, hc, q⟩ := h
  rw [da.len]
  exact hl ds c hc
end
section
variable {X : Cx} {r r1 : List Slot} {e c0 : Expr} {es : List Expr} {pos p px p2 : Pos} {ds dD : List D} {x m : Str} {k : Nat} {C : CtX} {c : Addr} {st : Stmt} {rest b1 b2 : List Stmt} {M N : List Slot → Prop}
/-- f(..) raises -/
theorem px_call (h : HasX X.prog X.w X.K X.mg X.base k x dD C) (hr : Room k X.A) (ha : AB X.nox r (e :: es) ds) (hc : C (ds ++ dD) c) (hg : Gl X x := by rfl) (hdb : (x == ("__debug__" : Str)) = false := by decide)
    (he : starEach (e :: es) X.env = (false, eval e X.env) :: starEach es X.env := by rfl) (hpl : (backTo pos (starEach es X.env)).any (·.1) = false := by rfl) : PX X r (.Call (.Name x p) (e :: es) [] pos) c := fun F G t H A Q W tk w => by
  obtain ⟨f, fd, ps, dvals, dvs, Fo, hm, kp, b, v, da⟩ := h
  have a1 := nA (ha F G t H A (fun vs H1 => spX X.K C (vs ++ dvs) H1 Q fun cls d H' => W cls d t H') fun vs G1 H1 e1 k1 => ⟨H1, ds ++ dD, c, Same.refl H1, k1.app (da H1), hc, fun G' H' e2 => w G1 H' ⟨e1.g, e1.gh.trans e2.h, e1.h.trans e2.h, e1.nw⟩⟩)
  unfold tE
  intro pins s I
  refine wpAny_Call_Name_kw (ld_glob I hg hm ?_ hdb)
  refine PySem.W.callWith_K (h₀ := X.base) I.ok.mod.kin kp (thn (cA.run pos pins s t H _ I a1) fun us s1 ⟨vs, H1, I1, r1, q⟩ => ⟨I1.kIn, ?_⟩) he hpl
  have r2 : Vals (vs ++ dvs) (us ++ dvals) := r1.append v
  have hl : (us ++ dvals).length = ps.length := by rw [← r2.length]; exact Fo.len _ _ _ _ q
  refine wpAny_call (codeAny_mono (Fo.run X.A X.stack s1 H1 ⟨us, []⟩ (us ++ dvals) (vs ++ dvs) Q _ hr I1.env0 (b s1 us I1.kIn hl) r2 q) fun r s' hq => ?_)
  cases r with
  | error e => exact tk e s' (XE.of_call I1 (fun _ _ _ h => h) hq)
  | ok fl =>
    cases fl with
    | ret u => exact I1.after hq
    | next => exact False.elim hq
    | brk => exact False.elim hq
    | cont => exact False.elim hq
theorem hx_expr (h : PX X r e c) (m : M r) (hs : swapsWith e none pos.line X.env = pure false := by rfl) : HX X r (.Expr e pos :: rest) c M := fun F G t H nl A D W tk w => oSs (pss_cons (ps_expr cE hs) cSs) (h F G t H A _ W tk fun G' H' e => w r G' t H' m (A.ext e))
theorem hx_ret (h : PX X r e c) (m : M r) : HX X r (.Return (some e) pos :: rest) c M := fun F G t H nl A D W tk w => oSs (pss_cons (ps_ret cE) cSs) (h F G t H A _ W tk fun G' H' e => w r G' t H' m (A.ext e))
/-- a statement that runs through, then .. -/
theorem hx_cons (h : S1 X.nox r st N (fun _ _ => False)) (k : ∀ r', N r' → HX X r' rest c M) : HX X r (st :: rest) c M := fun F G t H nl A D W tk w =>
  oSs (pss_cons cS cSs) (nS (h F G t H nl A { D with nx := tSs X rest D } (fun r' G' t' H' m A' => k r' m F G' t' H' nl A' D W tk w) fun _ _ _ _ _ _ z _ => z.elim))
theorem hx_le (l : Le r r1) (h : HX X r1 rest c M) : HX X r rest c M := fun F G t H nl A D W tk w => by
  obtain ⟨G', _, A'⟩ := A.le l nl
  exact h F G' t H nl A' D W tk w
/-- if c: .. that raises -/
theorem hx_yes (hc : TQ X.nox r c0 true) (h : HX X r b1 c M) : HX X r (.If c0 b1 b2 pos :: rest) c M := fun F G t H nl A D W tk w =>
  oSs (pss_cons (ps_if cT cSs cSs) cSs) (nT (hc F G t H A _ fun G' H' e => h F G' t H' nl (A.ext e) _ W tk w))
/-- raise C("..") -/
theorem hx_raise {j : Nat} (T : Exn X.K X.mg x c) (m0 : M r) (hcalm : X.calm = true := by rfl) (hg : Gl X x := by rfl) (hdb : (x == ("__debug__" : Str)) = false := by decide) :
    HX X r (.Raise (some (.Call (.Name x p) [.Constant (.str m) j p2] [] px)) none pos :: rest) c M := fun F G t H nl A D W tk w =>
  oSs (pss_cons (ps_raise hcalm tk (pmk_own PySem.F.excBase_ValueError T.q T.g T.k (raises_own T.b T.t) hg hdb)) cSs) (w r G t H m0 A)
end
/-- what isinstance asks of a caught error -/
theorem excC_mk {K : PySem.W.Frag} {D : Addr} (h1 : PySem.W.findIn K (.ref D) "__getattribute__" = some (some (.builtin "BaseException.__getattribute__"))) (h2 : PySem.W.findIn K (.ref D) "__getattr__" = some none) (h3 : PySem.W.subIn K (.ref D) (.type "BaseException") = some true) (h4 : PySem.W.hasDictIn K D = true)
    (h5 : PySem.W.findIn K (.ref D) "__class__" = some (some (.builtin "object.__class__"))) (h6 : PySem.W.specialIn K (.builtin "object.__class__") "__get__" = some (some (.builtin "getset_descriptor.__get__"))) (h7 : PySem.W.takesIn K (.builtin "object.__class__") = some true) (h8 : PySem.W.mroIn K D (.type "object") = some true) : ExcC K D := ⟨h1, h2, h3, h4, h5, h6, h7, h8⟩
section
variable {X : Cx} {r r1 : List Slot} {e : Expr} {pos pos' p np pT : Pos} {x n y : Str} {c C C' : Addr} {body suite : List Stmt} {b₀ : Stmt} {N : List Slot → Prop} {R : Slot → List Slot → Prop}
theorem At.setUn {K : PySem.W.Frag} {F : Fr} {G : Hp} {t : L2.St} {H : Hp} (A : At K F G r t H) (i : Nat) (o : Option V) : At K F G (r.set i .un) (t.set i o) H := by
  obtain ⟨k, fp, s, nd, fr⟩ := A
  obtain ⟨fp', h1, h2, h3⟩ := s.setUn i o
  exact ⟨k, fp', h1, h2 nd, fun a ha => fr a (h3 a ha)⟩
/-- try: body that raises c, caught by except x as n -/
theorem s1_tryAs (i : Nat) {s : Slot} (hb : ∀ pn xe, HX (X.tr pn xe) r body c (fun r' => r' = r1)) (nd : X.N.Nodup) (hC : X.mg x = some (.ref C)) (hcat : Cat X.K c C true)
    (hsu : ∀ a oe pn, Zc (.ref c) none oe → (∃ vs, oe.data = .fields vs) → HS (X.suite a ((a, oe) :: pn)) (r1.set i (.d (.val (.ref a)))) (b₀ :: suite) (fun r' => N (r'.set i .un)) R)
    (hri : r1[i]? = some s := by rfl) (hs : X.stack = X.env :: X.outer := by rfl) (hf : X.env.frame = some X.env.locals := by rfl) (hi : X.N[i]? = some n := by rfl) (hln : X.env.kindOf n = some .local := by rfl) (hg : Gl X x := by rfl) (hdb : (x == ("__debug__" : Str)) = false := by decide) :
    S1 X r (.Try body [.ExceptHandler (some (.Name x np)) (some n) (b₀ :: suite) pos'] [] [] pos) N R := fun F G t H nl A D nn q =>
  oS (ps_try_as (i := i) (c := .ref C) (tb := fun W D σ H => ∀ pn xe, Takes (X.tr pn xe) W → tSs (X.tr pn xe) body D σ H) (ts := fun a cls d D σ H => ∀ oe pn, Zc cls d oe → (∃ vs, oe.data = .fields vs) → tSs (X.suite a ((a, oe) :: pn)) (b₀ :: suite) D σ H) (Wout := fun _ _ _ _ => False)
    hs hf nd hi hln ⟨hg, hdb, .inl hC⟩ takes0 (fun W pn xe tk _ => ⟨fun pins s _ _ _ I h => cSs.run pins s _ _ _ I (h pn xe tk)⟩) (fun a oe cls d pn hz hv => ⟨fun pins s _ _ _ I h => cSs.run pins s _ _ _ I (h oe pn hz hv)⟩))
    (fun pn xe tk => hb pn xe F G t H nl A D _ tk fun r' G' t' H' er A' => ⟨true, hcat.is, fun _ a na oe pn hz hv => by
      subst er
      exact hsu a oe pn hz hv F G' (t'.set i (some (.ref a))) H' nl (A'.put0 hri ⟨_, rfl, rfl, .val _⟩) _ (fun r'' G'' t'' H'' m A'' => nn _ G'' _ H'' m (A''.setUn i none)) q, fun z => by cases z⟩)
/-- except x: without a name -/
theorem s1_try (hb : ∀ pn xe, HX (X.tr pn xe) r body c (fun r' => r' = r1)) (hC : X.mg x = some (.ref C)) (hcat : Cat X.K c C true)
    (hsu : ∀ a oe pn, Zc (.ref c) none oe → (∃ vs, oe.data = .fields vs) → HS (X.suite a ((a, oe) :: pn)) r1 (b₀ :: suite) N R)
    (hs : X.stack = X.env :: X.outer := by rfl) (hf : X.env.frame = some X.env.locals := by rfl) (hg : Gl X x := by rfl) (hdb : (x == ("__debug__" : Str)) = false := by decide) :
    S1 X r (.Try body [.ExceptHandler (some (.Name x np)) none (b₀ :: suite) pos'] [] [] pos) N R := fun F G t H nl A D nn q =>
  oS (ps_try_only (c := .ref C) (tb := fun W D σ H => ∀ pn xe, Takes (X.tr pn xe) W → tSs (X.tr pn xe) body D σ H) (ts := fun a cls d D σ H => ∀ oe pn, Zc cls d oe → (∃ vs, oe.data = .fields vs) → tSs (X.suite a ((a, oe) :: pn)) (b₀ :: suite) D σ H) (Wout := fun _ _ _ _ => False)
    hs hf ⟨hg, hdb, .inl hC⟩ takes0 (fun W pn xe tk _ => ⟨fun pins s _ _ _ I h => cSs.run pins s _ _ _ I (h pn xe tk)⟩) (fun a oe cls d pn hz hv => ⟨fun pins s _ _ _ I h => cSs.run pins s _ _ _ I (h oe pn hz hv)⟩))
    (fun pn xe tk => hb pn xe F G t H nl A D _ tk fun r' G' t' H' er A' => ⟨true, hcat.is, fun _ a na oe pn hz hv => by
      subst er
      exact hsu a oe pn hz hv F G' t' H' nl A' _ nn q, fun z => by cases z⟩)
/-- isinstance(error, C') -/
theorem pb_isE {a : Addr} {oe : Obj} {pn : List (Addr × Obj)} {b : Bool} (B : Bi X.mg) (EC : ExcC X.K c) (hz : Zc (.ref c) none oe) (hv : ∃ vs, oe.data = .fields vs) (ha : PB (X.suite a ((a, oe) :: pn)) r e (.val (.ref a))) (hT : X.mg y = some (.ref C')) (hk : PySem.W.kitOne X.K (.ref c) (.ref C') = some b)
    (hgT : Gl X y := by rfl) (hxd : (y == ("__debug__" : Str)) = false := by decide) (hs : starEach [e, .Name y pT] X.env = (false, eval e X.env) :: starEach [.Name y pT] X.env := by rfl) (hg : Gl X "isinstance" := by rfl) (hp : (backTo pos (starEach [.Name y pT] X.env)).any (·.1) = false := by rfl) :
    PB (X.suite a ((a, oe) :: pn)) r (.Call (.Name "isinstance" p) [e, .Name y pT] [] pos) (.bl b) :=
  pb_call1 (v := .bl b) (pe_callB (call_isE EC hz hv) hg B.isi (by decide +kernel) cA (he := hs) (hpl := hp)) (ab2 ha (pb (pp_gr hT hgT hxd)) hs rfl) (fun vs H Q k q => by
    cases k with
    | cons k1 k2 =>
      cases k2 with
      | cons k2 k3 =>
        cases k3; cases k2; cases k1
        exact ⟨.ref C', .ref C', b, rfl, fun u z => by cases z; rfl, hk, q⟩) fun _ => .bl _
end
end DL

/-! Part 29: the order of lists of ints. -/
namespace DL
open PySem PySem.Spec PyProof.Rows L2
abbrev ltM (ns ms : List Int) : Bool := SeqAt.firstLt (fun j => decide (ns.getD j 0 = ms.getD j 0)) (fun j => decide (ns.getD j 0 < ms.getD j 0)) (decide (ns.length < ms.length)) (List.range (min ns.length ms.length))
def rLtL (K : PySem.W.Frag) : R2 := fun x y H Q => ∃ (a b : Addr) (ns ms : List Int), x = .ref a ∧ y = .ref b ∧ SqL K H a (ns.map V.int) ∧ SqL K H b (ms.map V.int) ∧ Q (.bl (ltM ns ms)) H
theorem op_ltL {X : Cx} (hu : X.A.units < cLine) : OpR X (compareOp .Lt) (rLtL X.K) := by
  intro pins s σ H x y v u Q I rx ry h
  obtain ⟨a, b, ns, ms, rfl, rfl, ha, hb, q⟩ := h
  cases rx
  cases ry
  obtain ⟨its, r1, p1, _⟩ := I.list ha
  obtain ⟨its2, r2, p2, _⟩ := I.list hb
  have i1 : IntsAre its ns := Vals.ints r1
  have i2 : IntsAre its2 ms := Vals.ints r2
  have e1 : its.toArray.size = ns.length := by rw [List.size_toArray]; exact i1.length
  have e2 : its2.toArray.size = ms.length := by rw [List.size_toArray]; exact i2.length
  have at1 : ∀ j (h1 : j < its.toArray.size), ∃ t, its.toArray[j] = .int (ns.getD j 0) t := fun j h1 => PyProof.Rows.IntsAre.int_at i1 _ _ (by simp at h1; simp [h1])
  have at2 : ∀ j (h1 : j < its2.toArray.size), ∃ t, its2.toArray[j] = .int (ms.getD j 0) t := fun j h1 => PyProof.Rows.IntsAre.int_at i2 _ _ (by simp at h1; simp [h1])
  have R := SeqAt.RcLt.lists (A := X.A) (s := s) (e := fun j => decide (ns.getD j 0 = ms.getD j 0)) (r := fun j => decide (ns.getD j 0 < ms.getD j 0)) p1.isList p2.isList hu (fun j h1 h2 => by
    obtain ⟨t, et⟩ := at1 j h1
    obtain ⟨t', et'⟩ := at2 j h2
    rw [et, et']
    have z : (ns.getD j 0 == ms.getD j 0) = decide (ns.getD j 0 = ms.getD j 0) := by
      by_cases q : ns.getD j 0 = ms.getD j 0
      · rw [decide_eq_true q]; exact beq_iff_eq.mpr q
      · rw [decide_eq_false q]; exact beq_eq_false_iff_ne.mpr q
    rw [← z]
    exact SeqAt.EqAt.int_int _ _ _ _) (fun j h1 h2 _ => by
    obtain ⟨t, et⟩ := at1 j h1
    obtain ⟨t', et'⟩ := at2 j h2
    rw [et, et']
    exact fun prog w E Q h => PyProof.Rows.lt_int h)
  rw [e1, e2] at R
  have z : wpAny (model X.prog X.w) X.A (compareOp .Lt (.ref a) (.ref b)) (EP X pins σ Q) X.xe s := R X.prog X.w X.xe (EP X pins σ Q) ⟨.bl _, H, I, rfl, q⟩
  exact z
theorem cr_ltL {X : Cx} {k : Nat} {a b : List Int} (hr : Room k X.A) : CR X .Lt (D.ints a) (D.ints b) (ltM a b) := ⟨_, op_ltL (by have := hr.un; omega), fun v1 v2 H Q k1 k2 q => by
  cases k1 with
  | lst h1 d1 =>
    cases k2 with
    | lst h2 d2 => exact ⟨_, _, a, b, rfl, rfl, SqL.of (by rw [← d1.ints_inv]; exact h1), SqL.of (by rw [← d2.ints_inv]; exact h2), q⟩⟩
theorem firstLt_app {e r : Nat → Bool} {fin : Bool} {l2 : List Nat} : ∀ l1 : List Nat, (∀ j, j ∈ l1 → e j = true) → SeqAt.firstLt e r fin (l1 ++ l2) = SeqAt.firstLt e r fin l2
  | [], _ => rfl
  | j :: l, h => by
    rw [List.cons_append, SeqAt.firstLt_yes (h j (List.mem_cons_self ..))]
    exact firstLt_app l fun x hx => h x (List.mem_cons_of_mem _ hx)
theorem ltM_at {a b : List Int} {k : Nat} (h1 : k < a.length) (h2 : k < b.length) (he : ∀ j, j < k → a.getD j 0 = b.getD j 0) (hl : a.getD k 0 < b.getD k 0) : ltM a b = true := by
  have e : List.range (min a.length b.length) = List.range k ++ k :: (List.range (min a.length b.length - k - 1)).map (fun x => k + 1 + x) := by
    have e0 : min a.length b.length = k + (1 + (min a.length b.length - k - 1)) := by omega
    rw [show List.range (min a.length b.length) = List.range (k + (1 + (min a.length b.length - k - 1))) from by rw [← e0], List.range_add, List.range_add]
    simp [Function.comp_def, Nat.add_assoc]
  unfold ltM
  rw [e, firstLt_app _ fun j hj => decide_eq_true (he j (List.mem_range.mp hj)), SeqAt.firstLt_no (decide_eq_false (by omega))]
  exact decide_eq_true hl
section
variable {X : Cx} {r : List Slot} {es : List Expr} {pos : Pos} {ds : List D}
/-- [a, b, ..], looked at -/
theorem pb_lsts (h : AB X r es ds) (hz : ds.length ≤ sizeLine := by exact Nat.le_of_ble_eq_true rfl) : PB X r (.List es pos) (.lst ds) := fun F G t H A Q q =>
  oE (pe_lst cA) (h F G t H A _ fun vs G1 H1 e1 k1 => ⟨by rw [k1.len]; exact hz, fun p hp => q (.ref p) G1 _ (e1.trans (Ext.newO e1.gh hp)) (.lst upd_same (DtAll.mono (Same.new hp) _ _ k1))⟩)
end
theorem madeD_filter {α : Type} (l : List α) (z : α) (p : α → Bool) (h : α → D) : madeD (fun k => p (l.getD k z)) (fun k => h (l.getD k z)) l.length = (l.filter p).map h := by
  have e : (List.range l.length).map (fun k => l.getD k z) = l := by
    refine List.ext_getElem? fun k => ?_
    rw [List.getElem?_map]
    by_cases c : k < l.length
    · rw [List.getElem?_range c, List.getElem?_eq_getElem c, Option.map_some, List.getD_eq_getElem?_getD, List.getElem?_eq_getElem c]; rfl
    · rw [List.getElem?_eq_none (by simp; omega), List.getElem?_eq_none (by omega)]; rfl
  unfold madeD
  conv => rhs; rw [← e]
  rw [List.filter_map, List.map_map]; rfl
section
variable {X : Cx} {r : List Slot} {a elt : Expr} {ifs : List Expr} {pos px py : Pos} {x y : Str} {rest : List Stmt} {N : List Slot → Prop} {R : Slot → List Slot → Prop} {α : Type} [Inhabited α] {fa : α → D} {as : List α}
/-- [elt for x in xs if ..], the items data of any kind -/
theorem po_AF {scope : Scope} (j : Nat) {s : Slot} (nd : X.N.Nodup) (p : α → Bool) (g : α → D) (ha : PP X r a (.lst (as.map fa))) (hn : as.length ≤ sizeLine) (ht : ∀ z, z ∈ as → ∀ s H C cl fp, FQ (Blk X scope s H C cl fp) (r.set j (.d (fa z))) ifs (p z)) (he : ∀ z, z ∈ as → p z = true → ∀ s H C cl fp, PP (Blk X scope s H C cl fp) (r.set j (.d (fa z))) elt (g z))
    (ok : BlkOk X.N X.env.scope scope [(x, j)] := by exact blkOk_by (by kernel_rfl)) (hb : BlkN X scope x px j := by first | exact fun _ _ _ _ _ => pg_name (by assumption) rfl (Or.inl rfl) | exact fun _ _ _ _ _ => pg_name (by assumption) rfl (Or.inr rfl)) (hr : r[j]? = some s := by rfl) (hc : X.calm = true := by rfl) (hfs : ∀ x, foldedSetIterable a X.env x = pure x := by intro _; rfl) :
    PO X r (.ListComp elt [⟨.Name x px, a, ifs, 0⟩] scope pos) ((as.filter p).map g) :=
  po_is (po_lcL (cpos := pos) j nd (fun k => p (as.getD k default)) (fun k => g (as.getD k default)) ha (by rw [List.length_map]; exact hn) (fun k d hd => by
    obtain ⟨z, hz, rfl⟩ := lists_get hd
    rw [getD_at hz]
    exact ht z (List.mem_of_getElem? hz)) (fun k d hd hp => by
    obtain ⟨z, hz, rfl⟩ := lists_get hd
    rw [getD_at hz] at hp ⊢
    exact he z (List.mem_of_getElem? hz) hp) ok hb hr hc hfs) (by rw [List.length_map]; exact madeD_filter as default p g)
theorem hs_AF {scope : Scope} {spos : Pos} (i : Nat) {s1 : Slot} (sl : Slot) (j : Nat) {s : Slot} (nd : X.N.Nodup) (p : α → Bool) (g : α → D) (ha : PP X r a (.lst (as.map fa))) (hn : as.length ≤ sizeLine) (ht : ∀ z, z ∈ as → ∀ s H C cl fp, FQ (Blk X scope s H C cl fp) (r.set j (.d (fa z))) ifs (p z)) (he : ∀ z, z ∈ as → p z = true → ∀ s H C cl fp, PP (Blk X scope s H C cl fp) (r.set j (.d (fa z))) elt (g z))
    (hsl : sl = .o ((as.filter p).map g) ∨ sl = .d (.lst ((as.filter p).map g))) (k : HS X (r.set i sl) rest N R)
    (ok : BlkOk X.N X.env.scope scope [(x, j)] := by exact blkOk_by (by kernel_rfl)) (hb : BlkN X scope x px j := by first | exact fun _ _ _ _ _ => pg_name (by assumption) rfl (Or.inl rfl) | exact fun _ _ _ _ _ => pg_name (by assumption) rfl (Or.inr rfl)) (hr : r[j]? = some s := by rfl) (hc : X.calm = true := by rfl) (hfs : ∀ x, foldedSetIterable a X.env x = pure x := by intro _; rfl)
    (hr1 : r[i]? = some s1 := by rfl) (hy : X.N[i]? = some y := by rfl) (hyl : X.env.scope.names.lookup y = some .local := by rfl) (hsw : swapsWith (.ListComp elt [⟨.Name x px, a, ifs, 0⟩] scope pos) (some (.Name y py)) spos.line X.env = pure true := by exact sw_true rfl rfl rfl (by kernel_rfl)) :
    HS X r (.Assign [.Name y py] (.ListComp elt [⟨.Name x px, a, ifs, 0⟩] scope pos) spos :: rest) N R :=
  hs_lcL (cpos := pos) i sl j nd (fun k => p (as.getD k default)) (fun k => g (as.getD k default)) ha (by rw [List.length_map]; exact hn) (fun k d hd => by
    obtain ⟨z, hz, rfl⟩ := lists_get hd
    rw [getD_at hz]
    exact ht z (List.mem_of_getElem? hz)) (fun k d hd hp => by
    obtain ⟨z, hz, rfl⟩ := lists_get hd
    rw [getD_at hz] at hp ⊢
    exact he z (List.mem_of_getElem? hz) hp) ok hb hr hc hfs (by rw [List.length_map, madeD_filter as default p g]; exact hsl) k hr1 hy hyl hsw
end
end DL

/-! Part 30: fields set by pairs; objects told; tuples put together; C() without __init__. -/
namespace DL
open PySem PySem.Spec PyProof.Rows L2
/-! ### o.f, o.g = a, b -/
def gFld (K : PySem.W.Frag) (ta : TE) (f : Str) : TG := fun v σ H Q => ta σ H fun x H1 => ∃ a C dx fs, x = .ref a ∧ H1 a = some (.ins C dx fs) ∧ Cls K C ∧ NoAttr K C f ∧ fs.length < 1000 ∧ Q σ (L2.upd H1 a (.ins C dx (putF f v fs)))
theorem pg_fld {X : Cx} {o : Expr} {ta : TE} {f : Str} {pos : Pos} (ha : PE X o ta) : PG X (.Attribute o f pos) (gFld X.K ta f) := by
  refine ⟨fun pins s σ H v u Q I r h => ?_⟩
  rw [assign_Attribute]
  refine wpAny_bind (wpAny_holding (thn (ha.run pins s σ H _ I h) fun ov s1 ⟨x, H1, I1, rx, a, C, dx, fs, ex, ea, c, n, l, q⟩ => ?_))
  subst ex
  obtain rfl : ov = Value.ref a := rx
  refine wpAny_bind (wpAny_standAt (wpAny_bind (wpAny_holding (setattr_ok I1 ea c n l r fun s3 I3 => ?_))))
  exact wpAny_release ⟨σ, _, I3, q⟩
theorem upd_upd {H : Hp} {a : Addr} {x y : HO} : L2.upd (L2.upd H a x) a y = L2.upd H a y := by
  funext b
  by_cases c : b = a
  · subst c; rw [upd_same, upd_same]
  · rw [upd_ne c, upd_ne c, upd_ne c]
theorem putF_len {f : Str} {v : V} : ∀ vs : List (Str × V), (putF f v vs).length ≤ vs.length + 1
  | [] => by simp [putF]
  | (g, w) :: vs => by
    unfold putF
    split
    · simp
    · have := putF_len (f := f) (v := v) vs
      simp; omega
section
variable {K : PySem.W.Frag} {F : Fr} {G H : Hp} {r : List Slot} {t : L2.St} {qa : Option Addr} {C : Addr}
theorem At.setF2 {i : Nat} {fs : List (Str × Fld)} (f g : Str) (A : At K F G r t H) (hi : r[i]? = some (.ob qa C fs)) : ∃ p dx vs, t[i]? = some (some (.ref p)) ∧ H p = some (.ins C dx vs) ∧ vs.length = fs.length ∧
    ∀ G' H' x1 v1 fp1 x2 v2 fp2, Ext G H G' H' → FldOk K G' H' x1 v1 fp1 → FldOk K G' H' x2 v2 fp2 → (fp1 ++ fp2).Nodup → (∀ a, a ∈ fp1 ++ fp2 → H a = none ∧ G' a = none) → At K F G' (r.set i (.ob qa C (putFl g x2 (putFl f x1 fs)))) t (L2.upd H' p (.ins C dx (putF g v2 (putF f v1 vs)))) := by
  obtain ⟨v, fp0, h1, so, nd, gn, kk⟩ := A.rep hi
  have has := so.has
  obtain ⟨p, dx, vs, fps, rfl, rfl, hp, fk, hq⟩ := so
  have hlen : vs.length = fs.length := by
    clear kk hp has nd gn h1 A hi
    induction fk with
    | nil => rfl
    | cons _ _ ih => simp [ih]
  obtain ⟨f1, f0, f2, e0, ha, hb⟩ := fk.put f
  refine ⟨p, dx, vs, h1, hp, hlen, fun G' H' x1 v1 fp1 x2 v2 fp2 e q1 q2 nd' n => ?_⟩
  have mp : p ∈ p :: fps := by simp
  have gp : G' p = none := e.nw p (has p mp) (gn p mp)
  have hset : t.set i (some (.ref p)) = t := by
    obtain ⟨hlt, he⟩ := List.getElem?_eq_some_iff.mp h1
    rw [← he]; exact List.set_getElem_self hlt
  rw [List.nodup_append] at nd'
  obtain ⟨m1, m2, m3⟩ := nd'
  have sub : ∀ a, a ∈ f1 ++ f2 → a ∈ fps := fun a ma => by
    rw [e0]
    rcases List.mem_append.mp ma with w | w
    · exact List.mem_append_left _ w
    · exact List.mem_append_right _ (List.mem_append_right _ w)
  have nd2 := List.nodup_cons.mp nd
  have nf : ∀ a, a ∈ fp1 ++ fp2 → a ∉ p :: fps := fun a ma mb => has a mb (n a ma).1
  have nm : (f1 ++ (fp1 ++ f2)).Nodup := nodup_mid (b := f0) (by rw [← e0]; exact nd2.2) m1 fun x hx => ⟨fun w => nf x (List.mem_append_left _ hx) (List.mem_cons_of_mem _ (sub x (List.mem_append_left _ w))), fun w => nf x (List.mem_append_left _ hx) (List.mem_cons_of_mem _ (sub x (List.mem_append_right _ w)))⟩
  have cell : ∀ fp, (∀ a, a ∈ fp → a ∈ fp1 ++ fp2) → ∀ x v, FldOk K G' H' x v fp → FldOk K G' (L2.upd H' p (.ins C dx (putF g v2 (putF f v1 vs)))) x v fp := fun fp hs x v q => q.frame (Same.refl _) fun a o ma w => by
    have ne : a ≠ p := fun c => nf a (hs a ma) (c ▸ mp)
    rw [upd_ne ne]; exact w
  have K1 := hb G' (L2.upd H' p (.ins C dx (putF g v2 (putF f v1 vs)))) x1 v1 fp1 e.g (fun a o ma q => by
      have ne : a ≠ p := fun c => nd2.1 (c ▸ sub a ma)
      rw [upd_ne ne]; exact e.h a o q) (cell fp1 (fun a ha => List.mem_append_left _ ha) x1 v1 q1)
  obtain ⟨g1, g0, g2, e1, ha2, hb2⟩ := K1.put g
  have K2 := hb2 G' _ x2 v2 fp2 (Same.refl _) (fun _ _ _ q => q) (cell fp2 (fun a ha => List.mem_append_right _ ha) x2 v2 q2)
  have sub2 : ∀ a, a ∈ g1 ++ g2 → a ∈ fps ∨ a ∈ fp1 := fun a ma => by
    have : a ∈ f1 ++ (fp1 ++ f2) := by
      rw [e1]
      rcases List.mem_append.mp ma with w | w
      · exact List.mem_append_left _ w
      · exact List.mem_append_right _ (List.mem_append_right _ w)
    rcases List.mem_append.mp this with w | w
    · exact .inl (sub a (List.mem_append_left _ w))
    · rcases List.mem_append.mp w with w | w
      · exact .inr w
      · exact .inl (sub a (List.mem_append_right _ w))
  have nf2 : ∀ x, x ∈ fp2 → x ∉ g1 ++ g2 := fun x hx w => by
    rcases sub2 x w with w | w
    · exact nf x (List.mem_append_right _ hx) (List.mem_cons_of_mem _ w)
    · exact m3 x w x hx rfl
  have nm2 : (g1 ++ (fp2 ++ g2)).Nodup := nodup_mid (b := g0) (by rw [← e1]; exact nm) m2 fun x hx => ⟨fun w => nf2 x hx (List.mem_append_left _ w), fun w => nf2 x hx (List.mem_append_right _ w)⟩
  have pn : ∀ a, a ∈ g1 ++ g2 → a ≠ p := fun a w c => by
    rcases sub2 a w with w | w
    · exact nd2.1 (c ▸ w)
    · exact nf a (List.mem_append_left _ w) (c ▸ mp)
  have z := kk G' (L2.upd H' p (.ins C dx (putF g v2 (putF f v1 vs)))) (.ob qa C (putFl g x2 (putFl f x1 fs))) (some (.ref p)) (p :: (g1 ++ (fp2 ++ g2))) ((Ok.of_ext e has).upd mp gp)
    ⟨p, dx, _, _, rfl, rfl, upd_same, K2, hq⟩ (by
      rw [List.nodup_cons]
      refine ⟨fun w => ?_, nm2⟩
      rcases List.mem_append.mp w with w | w
      · exact pn p (List.mem_append_left _ w) rfl
      · rcases List.mem_append.mp w with w | w
        · exact nf p (List.mem_append_right _ w) mp
        · exact pn p (List.mem_append_right _ w) rfl) (fun a ma => by
      rcases List.mem_cons.mp ma with w | w
      · rw [w]; exact ⟨gp, .inr mp⟩
      · have old : a ∈ g1 ++ g2 → G' a = none ∧ (H a = none ∨ a ∈ p :: fps) := fun w => by
          rcases sub2 a w with w | w
          · have m2 := List.mem_cons_of_mem p w
            exact ⟨e.nw a (has a m2) (gn a m2), .inr m2⟩
          · exact ⟨(n a (List.mem_append_left _ w)).2, .inl (n a (List.mem_append_left _ w)).1⟩
        rcases List.mem_append.mp w with w | w
        · exact old (List.mem_append_left _ w)
        · rcases List.mem_append.mp w with w | w
          · exact ⟨(n a (List.mem_append_right _ w)).2, .inl (n a (List.mem_append_right _ w)).1⟩
          · exact old (List.mem_append_right _ w))
  rw [hset] at z
  exact z
/-- an object of ours told: data -/
theorem At.tellOb {i : Nat} {fs : List (Str × Fld)} (nl : F.L = []) (A : At K F G r t H) (hi : r[i]? = some (.ob qa C fs)) : ∃ G', At K F G' (r.set i (.d (.ins C (fs.map Prod.fst) (fs.map fun z => z.2.toD)))) t H := by
  obtain ⟨k, fp, sl, nd, fr⟩ := A
  obtain ⟨v, fp1, fp0, fp2, a1, a2, a3, a4⟩ := sl.split hi
  obtain ⟨p, dx, vs, fps, rfl, rfl, hp, fk, hq⟩ := a3
  rw [a2, List.nodup_append] at nd
  obtain ⟨n1, n2, n3⟩ := nd
  rw [List.nodup_append] at n2
  obtain ⟨n4, n5, n6⟩ := n2
  rw [List.nodup_cons] at n4
  have fr0 : ∀ a, a ∈ p :: fps → F.H a = none ∧ G a = none := fun a ha => by
    have z := fr a (by rw [a2]; exact List.mem_append_right _ (List.mem_append_left _ ha))
    exact ⟨z.2.elim id (fun w => by rw [nl] at w; cases w), z.1⟩
  have e0 : Ext F.G F.H G H := ⟨k.g, k.gh, fun a o z => k.h a o z (by rw [nl]; simp), k.nw⟩
  obtain ⟨G2, ws, b1, b2, rfl, b4, b5, b6⟩ := fk.tell G (Same.refl _) e0 n4.2 fun a ha => fr0 a (List.mem_cons_of_mem _ ha)
  have gp : G2 p = none := by rw [b6 p n4.1]; exact (fr0 p (by simp)).2
  have e3 := b2.tell (fr0 p (by simp)).1 gp hp
  have s3 : Same G (L2.upd G2 p (.ins C dx ((fs.map Prod.fst).zip ws))) := b1.trans (Same.new gp)
  have out : ∀ a, a ∈ fp1 ++ fp2 → a ∉ p :: fps := fun a ha h0 => by
    rcases List.mem_append.mp ha with z | z
    · exact n3 a z a (List.mem_append_left _ h0) rfl
    · exact n6 a h0 a z rfl
  have hset : t.set i (some (.ref p)) = t := by
    obtain ⟨hlt, he⟩ := List.getElem?_eq_some_iff.mp a1
    rw [← he]; exact List.set_getElem_self hlt
  have S := a4 (L2.upd G2 p (.ins C dx ((fs.map Prod.fst).zip ws))) H (.d (.ins C (fs.map Prod.fst) (fs.map fun z => z.2.toD))) (some (.ref p)) [] s3 (fun _ _ _ w => w) ⟨_, rfl, rfl, .ins upd_same b4 (DtAll.mono (Same.new gp) _ _ b5)⟩
  rw [hset] at S
  refine ⟨_, ⟨e3.g, e3.gh, k.h, e3.nw, k.ln⟩, fp1 ++ ([] ++ fp2), S, ?_, fun a ha => ?_⟩
  · rw [List.nil_append, List.nodup_append]
    exact ⟨n1, n5, fun a ha b hb => n3 a ha b (List.mem_append_right _ hb)⟩
  · rw [List.nil_append] at ha
    have o := out a ha
    rw [List.mem_cons, not_or] at o
    have z := fr a (by
      rw [a2]
      rcases List.mem_append.mp ha with w | w
      · exact List.mem_append_left _ w
      · exact List.mem_append_right _ (List.mem_append_right _ w))
    refine ⟨?_, z.2⟩
    rw [upd_ne o.1, b6 a o.2]; exact z.1
end
section
variable {X : Cx} {r : List Slot} {a b e : Expr} {pos p p1 p2 p3 p4 pt pt2 px pa : Pos} {kt k2 : Nat} {x f g : Str} {x1 x2 : Fld} {C : Addr} {qa : Option Addr} {fs fs' : List (Str × Fld)} {xs ys ds : List D} {rest : List Stmt} {N : List Slot → Prop} {R : Slot → List Slot → Prop}
theorem hs_setF2 (i : Nat) (ha : AS X r [a, b] [.f x1, .f x2]) (c : Cls X.K C) (na1 : NoAttr X.K C f) (na2 : NoAttr X.K C g) (k : HS X (r.set i (.ob qa C fs')) rest N R) (hr : r[i]? = some (.ob qa C fs) := by rfl) (hp : putFl g x2 (putFl f x1 fs) = fs' := by rfl) (hl : fs.length < 900 := by decide) (hN : X.N[i]? = some x := by rfl)
    (hv : Vis X.env.scope x := by first | exact Or.inl rfl | exact Or.inr (Or.inl rfl) | exact Or.inr (Or.inr rfl)) (hd : (x == ("__debug__" : Str)) = false := by decide) (hcd : (x == ("__classdict__" : Str)) = false := by decide) (hc : X.calm = true := by rfl)
    (hs : swapsWithSole [.Tuple [.Attribute (.Name x p1) f p2, .Attribute (.Name x p3) g p4] kt pt] (.Tuple [a, b] k2 pt2) pos.line X.env = pure false := by rfl) (hw : swappedStores [.Tuple [.Attribute (.Name x p1) f p2, .Attribute (.Name x p3) g p4] kt pt] (.Tuple [a, b] k2 pt2) X.env = pure none := by rfl)
    (h1 : (assignEach [.Tuple [.Attribute (.Name x p1) f p2, .Attribute (.Name x p3) g p4] kt pt] X.env).map (·.2) = [assign (.Tuple [.Attribute (.Name x p1) f p2, .Attribute (.Name x p3) g p4] kt pt) X.env] := by rfl)
    (hg1 : (assignEach [.Attribute (.Name x p1) f p2, .Attribute (.Name x p3) g p4] X.env).map (·.2) = assign (.Attribute (.Name x p1) f p2) X.env :: (assignEach [.Attribute (.Name x p3) g p4] X.env).map (·.2) := by rfl)
    (hg2 : (assignEach [.Attribute (.Name x p3) g p4] X.env).map (·.2) = assign (.Attribute (.Name x p3) g p4) X.env :: (assignEach [] X.env).map (·.2) := by rfl)
    (hn : (assignEach [.Attribute (.Name x p1) f p2, .Attribute (.Name x p3) g p4] X.env).length = 2 := by rfl) (hst : (assignEach [.Attribute (.Name x p1) f p2, .Attribute (.Name x p3) g p4] X.env).findIdx? (·.1) = none := by rfl) :
    HS X r (.Assign [.Tuple [.Attribute (.Name x p1) f p2, .Attribute (.Name x p3) g p4] kt pt] (.Tuple [a, b] k2 pt2) pos :: rest) N R :=
  hs_cons (M := fun r' => r' = r.set i (.ob qa C fs')) (fun F G t H nl A D n q => by
    obtain ⟨pa, dx, vs, t1, t2, t3, t4⟩ := A.setF2 f g hr
    subst hp
    refine oS (ps_asg (pe_tup cA) (pg_tup hc (pgs_cons (pg_fld (pe_var hN hv hd hcd)) (pgs_cons (pg_fld (pe_var hN hv hd hcd)) pgs_nil hg2) hg1) hn hst) hs hw h1) (ha F G t H A _ fun us G' H' fp e sl nf nw => ?_)
    match us, sl with
    | [v1, v2], .cons (fp := f1) q1 (.cons (fp := f2) q2 .nil) =>
      obtain ⟨w1, ew1, k1⟩ := q1
      obtain ⟨w2, ew2, k2⟩ := q2
      cases ew1; cases ew2
      rw [List.append_nil] at nf nw
      refine ⟨by show 2 ≤ sizeLine; rw [sizeLine_eq]; omega, fun p0 hp0 => ?_⟩
      have e2 : Ext G H G' (upd H' p0 (.tup [v1, v2])) := e.trans (Ext.newO e.gh hp0)
      have pp : (upd H' p0 (.tup [v1, v2])) pa = some (.ins C dx vs) := e2.h _ _ t2
      have fr : ∀ fp, (∀ a, a ∈ fp → a ∈ f1 ++ f2) → ∀ x v, FldOk X.K G' H' x v fp → FldOk X.K G' (upd H' p0 (.tup [v1, v2])) x v fp := fun fp hs x v q => q.frame (Same.refl _) fun a o ma w => by
        rw [upd_ne (ne_of_none w hp0)]; exact w
      refine ⟨p0, [v1, v2], rfl, SqT.of upd_same, rfl, v1, [v2], rfl, _, t1, pa, C, dx, vs, rfl, pp, c, na1, by omega, v2, [], rfl, _, t1, pa, C, dx, _, rfl, upd_same, c, na2, by have := putF_len (f := f) (v := v1) vs; omega, rfl, ?_⟩
      rw [upd_upd]
      exact n _ G' t _ rfl (t4 G' _ x1 v1 f1 x2 v2 f2 e2 (fr f1 (fun a ha => List.mem_append_left _ ha) x1 v1 k1) (fr f2 (fun a ha => List.mem_append_right _ ha) x2 v2 k2) nf nw)) fun _ e => e ▸ k
/-- an object of ours told -/
theorem hs_tell (i : Nat) (k : HS X (r.set i (.d (.ins C (fs.map Prod.fst) (fs.map fun z => z.2.toD)))) rest N R) (hr : r[i]? = some (.ob qa C fs) := by rfl) : HS X r rest N R := fun F G t H nl A D n q => by
  obtain ⟨G', A'⟩ := A.tellOb nl hr
  exact k F G' t H nl A' D n q
/-- list(o.f) -/
theorem po_listF (B : Bi X.mg) (i : Nat) (c : Cls X.K C) (na : NoAttr X.K C f) (hr : r[i]? = some (.ob qa C fs) := by rfl) (hf : fs.lookup f = some (.o xs) := by rfl) (hN : X.N[i]? = some x := by rfl)
    (hv : Vis X.env.scope x := by first | exact Or.inl rfl | exact Or.inr (Or.inl rfl) | exact Or.inr (Or.inr rfl)) (hd : (x == ("__debug__" : Str)) = false := by decide) (hcd : (x == ("__classdict__" : Str)) = false := by decide)
    (hb : attributeBase (.Name x px) f X.env (eval (.Name x px) X.env) = eval (.Name x px) X.env := by rfl)
    (hs : starEach [.Attribute (.Name x px) f pa] X.env = (false, eval (.Attribute (.Name x px) f pa) X.env) :: starEach [] X.env := by rfl) (hg : Gl X "list" := by rfl) (hp : (backTo pos (starEach [] X.env)).any (·.1) = false := by rfl) :
    PO X r (.Call (.Name "list" p) [.Attribute (.Name x px) f pa] [] pos) xs := fun F G t H A Q q => by
  obtain ⟨pa, dx, vs, l, ws, h1, h2, h3, h4, h5, h6⟩ := A.updF hr hf
  refine oE (pe_callTy call_list_of hg B.list (by decide +kernel) (pa_cons (pe_fld (pe_var hN hv hd hcd) hb) pa_nil hs) (he := hs) (hpl := hp)) ⟨_, h1, pa, C, dx, vs, .ref l, rfl, h2, c, na, h3, ?_⟩
  exact ⟨l, ws, rfl, .inl (SqL.of h4), fun u hu => q u _ G _ (Ext.newO A.gh hu) hu (A.gh.free hu) upd_same h5⟩
/-- s + t of tuples, both not empty -/
theorem pp_catT (ha : PP X r a (.tup xs)) (hb : PP X r b (.tup ys)) (hx : xs ≠ []) (hy : ys ≠ []) (hz : xs.length + ys.length ≤ sizeLine) : PP X r (.BinOp a .Add b pos) (.tup (xs ++ ys)) := fun F G t H A Q q =>
  oE (pe_op op_catT cE cE) (twoP A ha hb fun v w G' H' e k1 k2 => by
    cases k1 with
    | tup h1 d1 =>
      cases k2 with
      | tup h2 d2 =>
        refine ⟨_, _, _, _, rfl, rfl, SqT.of (e.gh _ _ h1), SqT.of (e.gh _ _ h2), fun z => ?_, by rw [d1.len, d2.len]; exact hz, fun z => ?_, fun _ p0 hp0 => ?_⟩
        · rw [z] at d1; have := d1.len; cases xs with
          | nil => exact hx rfl
          | cons _ _ => cases this
        · rw [z] at d2; have := d2.len; cases ys with
          | nil => exact absurd rfl hy
          | cons _ _ => cases this
        · exact q _ (upd G' p0 _) _ (e.trans (Ext.new e.gh hp0)) (.tup upd_same (DtAll.mono (Same.new (e.gh.free hp0)) _ _ (d1.app d2))))
end
/-! ### C() without __init__ -/
structure Mk0 (K : PySem.W.Frag) (mg : Str → Option Value) (x : Str) (C : Addr) : Prop where
  g : mg x = some (.ref C)
  makes : PySem.W.makesIn K C = true
  init : PySem.W.findIn K (.ref C) "__init__" = some (some (.builtin "object.__init__"))
  kp : PySem.W.keepIn K (.ref C) = true
theorem mk0_mk {K : PySem.W.Frag} {mg : Str → Option Value} {h : Heap} {x : Str} {C : Addr} (X : K.In h) (G : h.Ns mainGlobals mg) (a : PySem.W.nsIn K mainGlobals x = some (some (.ref C))) (m : PySem.W.makesIn K C = true)
    (i : PySem.W.findIn K (.ref C) "__init__" = some (some (.builtin "object.__init__"))) (k : PySem.W.keepIn K (.ref C) = true) : Mk0 K mg x C := ⟨PySem.W.mg_of X G a, m, i, k⟩
def tNew0 (C : Addr) : TE := fun σ H Q => ∀ x dx, H x = none → H dx = none → dx ≠ x → Q (.ref x) (L2.upd (L2.upd H dx (.own x)) x (.ins C dx []))
theorem pe_new0 {X : Cx} {x : Str} {C : Addr} {p pos : Pos} (M : Mk0 X.K X.mg x C) (hg : Gl X x) (hdb : (x == ("__debug__" : Str)) = false := by decide) : PE X (.Call (.Name x p) [] [] pos) (tNew0 C) := by
  refine ⟨fun pins s σ H Q I h => ?_⟩
  refine wpAny_Call_Name_kw (ld_glob I hg M.g ?_ hdb)
  refine PySem.W.callWith_K0 I.kIn M.kp ?_
  have hq := h (s.heap.objs.size + 1) s.heap.objs.size (I.hok.fresh (Nat.le_succ _)) (I.hok.fresh (Nat.le_refl _)) (Nat.ne_of_lt (Nat.lt_succ_self _))
  have I2 := Inv.made (C := C) I
  have Y := PySem.W.makes_of (M := model X.prog X.w) I.kIn M.makes
  have e2 : ((s.heap.push PySem.W.emptyDict).push (PySem.W.instObj C s.heap.objs.size)).get? (s.heap.objs.size + 1) = some (PySem.W.instObj C s.heap.objs.size) := by
    have := Heap.get?_push_size (s.heap.push PySem.W.emptyDict) (o := PySem.W.instObj C s.heap.objs.size) rfl
    rwa [Heap.size_push] at this
  have t1 : PySem.W.Looks (model X.prog X.w) ((s.heap.push PySem.W.emptyDict).push (PySem.W.instObj C s.heap.objs.size)) (typeOf (.ref (s.heap.objs.size + 1))) (.ref C) := (PySem.W.Looks.ld e2).andThen .now
  have t2 : PySem.W.Looks (model X.prog X.w) ((s.heap.push PySem.W.emptyDict).push (PySem.W.instObj C s.heap.objs.size)) (isInstance (.ref (s.heap.objs.size + 1)) (.type "object")) true := t1.andThen (Y.top.keeps fun b o e => Heap.get?_push_of_some _ (Heap.get?_push_of_some _ e))
  refine wpAny_call (make_map0 I.kIn M.makes M.init (fun self => PySem.W.Looks.of_pure (PySem.W.oi_bind self)) ?_)
  refine codeAny_call_builtin PySem.W.oi_plain PySem.W.entry_oi (@PySem.W.check_slot (model X.prog X.w) _ _ _ "object.__init__" "object" "__init__" (.ref (s.heap.objs.size + 1)) [] [] _ PySem.W.oi_kind PySem.W.oi_split t2 (PySem.W.oi_args (.ref (s.heap.objs.size + 1))) ?_)
  rw [PySem.W.oi_run]
  exact wpAny_pure (And.intro rfl ⟨.ref _, _, I2, rfl, hq⟩)
section
variable {X : Cx} {r : List Slot} {x : Str} {C : Addr} {p pos : Pos}
/-- C() -/
theorem pn_new0 (M : Mk0 X.K X.mg x C) (hg : Gl X x := by rfl) (hdb : (x == ("__debug__" : Str)) = false := by decide) : PN X r (.Call (.Name x p) [] [] pos) C [] := fun F G t H A Q q =>
  oE (pe_new0 M hg hdb) fun y dy ny ndy ne => by
    have eo : Ext G H G (upd (upd H dy (.own y)) y (.ins C dy [])) := by
      have z := Ext.obj (C := C) (fs := []) A.gh ny ndy ne
      rw [upd_upd] at z
      exact ⟨Same.refl _, fun a o q => z.gh a o (z.g a o q), z.h, fun _ _ h => h⟩
    exact q y dy [] [] G _ eo upd_same .nil (by simp) fun a ha => by
      have : a = y := by simpa using ha
      subst this
      exact ⟨ny, A.gh.free ny⟩
theorem pp_new0 (M : Mk0 X.K X.mg x C) (hg : Gl X x := by rfl) (hdb : (x == ("__debug__" : Str)) = false := by decide) : PP X r (.Call (.Name x p) [] [] pos) (.ins C [] []) := pp_new (pn_new0 M hg hdb)
end
end DL

/-! Part 31: enumerate over data of any kind; several names, some of them cells, set by things of ours. -/
namespace DL
open PySem PySem.Spec PyProof.Rows L2
section
variable {X : Cx} {r : List Slot} {it : Expr} {px py p : Pos} {x y : Str} {body : List Stmt} {M : List Slot → Prop} {R : Slot → List Slot → Prop} {α : Type} [Inhabited α] {fa : α → D} {as : List α}
/-- for a, b in enumerate(xs), the items data of any kind -/
theorem s1_forEA {fpos tpos : Pos} {cpos : Pos} {kt : Nat} (B : Bi X.mg) (i j : Nat) {s s2 : Nat → Slot} (nd : X.N.Nodup) (I : Nat → List Slot) (ha : PP X r it (.lst (as.map fa))) (h0 : Le r (I 0)) (hb : ∀ (k : Nat) (z : α), as[k]? = some z → HS X (((I k).set i (.d (.int k))).set j (.d (fa z))) body (fun r' => Le r' (I (k + 1))) R) (m : M (I as.length))
    (hij : i ≠ j := by decide) (hr : ∀ k, (I k)[i]? = some (s k) := by intro _; rfl) (hr2 : ∀ k, (I k)[j]? = some (s2 k) := by intro _; rfl) (hN : X.N[i]? = some x := by rfl) (hx : Loc X.env.scope x := by first | exact Or.inl rfl | exact Or.inr rfl) (hf : X.fn x = true ∨ X.env.scope.names.lookup x = some .local := by first | exact .inl rfl | exact .inr rfl)
    (hN2 : X.N[j]? = some y := by rfl) (hx2 : Loc X.env.scope y := by first | exact Or.inl rfl | exact Or.inr rfl) (hf2 : X.fn y = true ∨ X.env.scope.names.lookup y = some .local := by first | exact .inl rfl | exact .inr rfl)
    (hs1 : (assignEach [.Name x px, .Name y py] X.env).map (·.2) = assign (.Name x px) X.env :: (assignEach [.Name y py] X.env).map (·.2) := by rfl) (hs2 : (assignEach [.Name y py] X.env).map (·.2) = assign (.Name y py) X.env :: (assignEach [] X.env).map (·.2) := by rfl) (hal : (assignEach [.Name x px, .Name y py] X.env).length = 2 := by rfl) (hst : (assignEach [.Name x px, .Name y py] X.env).findIdx? (·.1) = none := by rfl)
    (hp : PassesOwn (model X.prog X.w) X.A X.env X.xe := by exact PassesOwn.never) (hc : X.calm = true := by rfl) (hgl : Gl X "enumerate" := by rfl) (hs : starEach [it] X.env = [(false, eval it X.env)] := by rfl) (hfs : ∀ x, foldedSetIterable (.Call (.Name "enumerate" p) [it] [] cpos) X.env x = pure x := by intro _; rfl) :
    S1 X r (.For (.Tuple [.Name x px, .Name y py] kt tpos) (.Call (.Name "enumerate" p) [it] [] cpos) body [] fpos) M R :=
  s1_forE B I (fun k => ((I k).set i (.d (.int k))).set j (.d (fa (as.getD k default)))) ha h0 (fun k d hd => by
    obtain ⟨z, hz, rfl⟩ := lists_get hd
    rw [getD_at hz]
    exact gq_t (gqs_cons (gq_n i nd (hr k) hN hx hf) (gqs_cons (gq_n j nd (by rw [List.getElem?_set_ne hij]; exact hr2 k) hN2 hx2 hf2) gqs_nil hs2) hs1) hc hal hst) (fun k d hd => by
    obtain ⟨z, hz, rfl⟩ := lists_get hd
    rw [getD_at hz]
    exact hb k z hz) (by rw [List.length_map]; exact m) hp hc hgl hs hfs
end
section
variable {X : Cx} {r : List Slot} {a b c : Expr} {pos px py pz pt pt2 : Pos} {kt k2 : Nat} {x y z : Str} {s1 s2 s3 u1 u2 u3 : Slot} {rest : List Stmt} {N : List Slot → Prop} {R : Slot → List Slot → Prop}
/-- x, y, z = e1, e2, e3 over a tuple -/
theorem hs_parT3 (i j l : Nat) (nd : X.N.Nodup) (ha : AS X r [a, b, c] [u1, u2, u3]) (k : HS X (((r.set i u1).set j u2).set l u3) rest N R) (hij : i ≠ j := by decide) (hil : i ≠ l := by decide) (hjl : j ≠ l := by decide) (hr : r[i]? = some s1 := by rfl) (hr2 : r[j]? = some s2 := by rfl) (hr3 : r[l]? = some s3 := by rfl) (hN : X.N[i]? = some x := by rfl) (hN2 : X.N[j]? = some y := by rfl) (hN3 : X.N[l]? = some z := by rfl)
    (hx : Loc X.env.scope x := by first | exact Or.inl rfl | exact Or.inr rfl) (hx2 : Loc X.env.scope y := by first | exact Or.inl rfl | exact Or.inr rfl) (hx3 : Loc X.env.scope z := by first | exact Or.inl rfl | exact Or.inr rfl)
    (hf : X.fn x = true ∨ X.env.scope.names.lookup x = some .local := by first | exact .inl rfl | exact .inr rfl) (hf2 : X.fn y = true ∨ X.env.scope.names.lookup y = some .local := by first | exact .inl rfl | exact .inr rfl) (hf3 : X.fn z = true ∨ X.env.scope.names.lookup z = some .local := by first | exact .inl rfl | exact .inr rfl)
    (hc : X.calm = true := by rfl) (hs : swapsWithSole [.Tuple [.Name x px, .Name y py, .Name z pz] kt pt] (.Tuple [a, b, c] k2 pt2) pos.line X.env = pure false := by rfl) (hw : swappedStores [.Tuple [.Name x px, .Name y py, .Name z pz] kt pt] (.Tuple [a, b, c] k2 pt2) X.env = pure none := by rfl)
    (h1 : (assignEach [.Tuple [.Name x px, .Name y py, .Name z pz] kt pt] X.env).map (·.2) = [assign (.Tuple [.Name x px, .Name y py, .Name z pz] kt pt) X.env] := by rfl)
    (hg1 : (assignEach [.Name x px, .Name y py, .Name z pz] X.env).map (·.2) = assign (.Name x px) X.env :: (assignEach [.Name y py, .Name z pz] X.env).map (·.2) := by rfl) (hg2 : (assignEach [.Name y py, .Name z pz] X.env).map (·.2) = assign (.Name y py) X.env :: (assignEach [.Name z pz] X.env).map (·.2) := by rfl) (hg3 : (assignEach [.Name z pz] X.env).map (·.2) = assign (.Name z pz) X.env :: (assignEach [] X.env).map (·.2) := by rfl)
    (hn : (assignEach [.Name x px, .Name y py, .Name z pz] X.env).length = 3 := by rfl) (hst : (assignEach [.Name x px, .Name y py, .Name z pz] X.env).findIdx? (·.1) = none := by rfl) :
    HS X r (.Assign [.Tuple [.Name x px, .Name y py, .Name z pz] kt pt] (.Tuple [a, b, c] k2 pt2) pos :: rest) N R :=
  hs_cons (M := fun r' => r' = ((r.set i u1).set j u2).set l u3) (fun F G t H nl A D n q => oS (ps_asg (pe_tup cA) (pg_tup hc (pgs_cons (pg_name (i := i) nd hN hx hf) (pgs_cons (pg_name (i := j) nd hN2 hx2 hf2) (pgs_cons (pg_name (i := l) nd hN3 hx3 hf3) pgs_nil hg3) hg2) hg1) hn hst) hs hw h1) (ha F G t H A _ fun vs G' H' fp e sl nf nw => by
    match vs, sl with
    | [v1, v2, v3], .cons (fp := f1) q1 (.cons (fp := f2) q2 (.cons (fp := f3) q3 .nil)) =>
      rw [List.append_nil, List.nodup_append] at nf
      obtain ⟨n1, nf2, n3⟩ := nf
      rw [List.nodup_append] at nf2
      obtain ⟨m1, m2, m3⟩ := nf2
      have w1 : ∀ a, a ∈ f1 → H a = none ∧ G' a = none := fun a ha => nw a (List.mem_append_left _ ha)
      have w2 : ∀ a, a ∈ f2 → H a = none ∧ G' a = none := fun a ha => nw a (List.mem_append_right _ (List.mem_append_left _ ha))
      have w3 : ∀ a, a ∈ f3 → H a = none ∧ G' a = none := fun a ha => nw a (List.mem_append_right _ (List.mem_append_right _ (by simpa using ha)))
      obtain ⟨_, fp0, sl0, _, _⟩ := A.ext e
      have out0 : ∀ a, H a = none → a ∉ fp0 := fun a ha => not_in A e ha sl0
      have A1 := (A.ext e).put (i := i) hr q1 n1 fun a ha => ⟨(w1 a ha).2, free_F A (w1 a ha).1, fun fp sl => not_in A e (w1 a ha).1 sl⟩
      obtain ⟨v, g1, g0, g2, h1, h2, h3, h4⟩ := sl0.split hr
      have sl1 := h4 G' H' u1 (some v1) f1 (Same.refl _) (fun _ _ _ w => w) q1
      have in1 : ∀ a, a ∈ g1 ++ (f1 ++ g2) → a ∈ fp0 ∨ a ∈ f1 := fun a m => by
        rw [h2]
        rcases List.mem_append.mp m with w | w
        · exact .inl (List.mem_append_left _ w)
        · rcases List.mem_append.mp w with w | w
          · exact .inr w
          · exact .inl (List.mem_append_right _ (List.mem_append_right _ w))
      have hr2' : (r.set i u1)[j]? = some s2 := by rw [List.getElem?_set_ne hij]; exact hr2
      have A2 := A1.put (i := j) hr2' q2 m1 fun a ha => ⟨(w2 a ha).2, free_F A (w2 a ha).1, fun fp sl m => by
        rw [sl.uniq sl1] at m
        rcases in1 a m with w | w
        · exact out0 a (w2 a ha).1 w
        · exact n3 a w a (List.mem_append_left _ ha) rfl⟩
      obtain ⟨v', g1', g0', g2', h1', h2', h3', h4'⟩ := sl1.split hr2'
      have sl2 := h4' G' H' u2 (some v2) f2 (Same.refl _) (fun _ _ _ w => w) q2
      have in2 : ∀ a, a ∈ g1' ++ (f2 ++ g2') → a ∈ g1 ++ (f1 ++ g2) ∨ a ∈ f2 := fun a m => by
        rw [h2']
        rcases List.mem_append.mp m with w | w
        · exact .inl (List.mem_append_left _ w)
        · rcases List.mem_append.mp w with w | w
          · exact .inr w
          · exact .inl (List.mem_append_right _ (List.mem_append_right _ w))
      have A3 := A2.put (i := l) (s := s3) (by rw [List.getElem?_set_ne hjl, List.getElem?_set_ne hil]; exact hr3) q3 (by simpa using m2) fun a ha => ⟨(w3 a ha).2, free_F A (w3 a ha).1, fun fp sl m => by
        rw [sl.uniq sl2] at m
        rcases in2 a m with w | w
        · rcases in1 a w with w | w
          · exact out0 a (w3 a ha).1 w
          · exact n3 a w a (List.mem_append_right _ (by simpa using ha)) rfl
        · exact m3 a w a (by simpa using ha) rfl⟩
      refine ⟨by show 3 ≤ sizeLine; rw [sizeLine_eq]; omega, fun p0 hp0 => ?_⟩
      exact ⟨p0, [v1, v2, v3], rfl, SqT.of upd_same, rfl, v1, [v2, v3], rfl, v2, [v3], rfl, v3, [], rfl, rfl, n _ G' _ _ rfl (A3.ext (Ext.newO A3.gh hp0))⟩)) fun _ e => e ▸ k
end
end DL

/-! Part 32: d.get of a module's dict; defs that are called where no text is under way; tuples cut; C() if c else D(). -/
namespace DL
open PySem PySem.Spec PyProof.Rows L2
/-! ### a dict of the module, its keys texts, its values ints -/
structure Kd (K : PySem.W.Frag) (w : World) (mg : Str → Option Value) (x : Str) (kvs : List (Str × Int)) : Prop where
  ex : ∃ d es n, mg x = some (.ref d) ∧ KDict K w d es n ∧ (∀ z v, kvs.lookup z = some v → ∃ t, PySem.W.nsIn K d z = some (some (.int v t)))
section
variable {X : Cx} {r : List Slot} {e a : Expr} {x : Str} {apos cpos p : Pos} {kvs : List (Str × Int)} {z : Str} {v i : Int}
theorem pe_kget {d : Addr} {es : Array DictEntry} {n : Nat} {o e f : Expr} {td ty tx : TE} (D : KDict X.K X.w d es n) (ho : PE X o td) (he : PE X e ty) (hf : PE X f tx) (m : M2 X o "get" apos e f cpos) : PE X (.Call (.Attribute o "get" apos) [e, f] [] cpos)
    (fun σ H Q => td σ H fun x H1 => x = .ref d ∧ ty σ H1 fun y H2 => tx σ H2 fun z H3 => ∃ (k : Str) (u0 : Value) (v0 : V), y = .str k ∧ PySem.W.nsIn X.K d k = some (some u0) ∧ RelV v0 u0 ∧ Q v0 H3) := by
  refine ⟨fun pins s σ H Q I h => ?_⟩
  refine wpAny_Call_method m.base m.few m.line PySem.F.plainAttrs_dict PySem.F.slot_dict_get PySem.F.type_dict_get (thn (ho.run pins s σ H _ I h) fun u s1 ⟨x, H1, I1, rx, ex, q1⟩ => ?_)
  subst ex
  obtain rfl : u = Value.ref d := rx
  have hm := PySem.W.mapOf_K (prog := X.prog) (w := X.w) I1.kIn D.at_ D.lit
  refine ⟨hm.typeIs, fun b e => ?_, ?_⟩
  · cases e
    exact ⟨_, I1.kIn _ _ D.at_, rfl⟩
  rw [m.trees]
  refine Calls.callWith_builtin rfl (Calls.evalArgs_plain (Calls.spliced_cons (thn (he.run pins s1 σ H1 _ I1 q1) fun iv s2 ⟨y, H2, I2, ry, q2⟩ =>
    Calls.spliced_cons (thn (hf.run pins s2 σ H2 _ I2 q2) fun fv s3 ⟨z, H3, I3, rz, k, u0, v0, ey, e0, r0, q3⟩ => Calls.spliced_nil ?_))))
  subst ey
  obtain ⟨t, rfl⟩ := ry
  have hm3 := PySem.W.mapOf_K (prog := X.prog) (w := X.w) I3.kIn D.at_ D.lit
  refine call_meetsIn PySem.F.slot_dict_get hm3.typeIs PySem.F.entry_dict_get (PySem.F.args_dict_get_3 _ _ _) (meets_dict_get_default (strKind X.prog X.w) d (PySem.strKind_is X.prog X.w k t) D.low fv) ⟨_, hm3, ?_⟩
  rw [PySem.W.find_K D.at_ e0]
  exact ⟨v0, H3, I3.tok _, r0, q3⟩
/-- d.get(k, i), k there -/
theorem pb_kget (T : Kd X.K X.w X.mg x kvs) (he : PB X r e (.str z)) (hf : PB X r a (.int i)) (hl : kvs.lookup z = some v) (m : M2 X (.Name x p) "get" apos e a cpos := by exact ⟨rfl, rfl, rfl, rfl⟩) (hg : Gl X x := by rfl) (hd : (x == ("__debug__" : Str)) = false := by decide) :
    PB X r (.Call (.Attribute (.Name x p) "get" apos) [e, a] [] cpos) (.int v) := fun F G t H A Q q => by
  obtain ⟨d, es, n, hm, D, hk⟩ := T.ex
  obtain ⟨tk, hk⟩ := hk z v hl
  refine oE (pe_kget D (pe_glob (v := .ref d) hg hm rfl hd) cE cE m) ⟨rfl, he F G t H A _ fun v1 G1 H1 e1 k1 => hf F G1 t H1 (A.ext e1) _ fun v2 G2 H2 e2 k2 => ?_⟩
  cases k1
  exact ⟨z, _, .int v, rfl, hk, ⟨tk, rfl⟩, q _ G2 H2 (e1.trans e2) (.int v)⟩
end
theorem kd_mk2 {K : PySem.W.Frag} {w : World} {mg : Str → Option Value} {h : Heap} {x k1 k2 : Str} {v1 v2 : Int} {t1 t2 : Tok} {d : Addr} {es : Array DictEntry} {n : Nat} (X : K.In h) (G : h.Ns mainGlobals mg) (a : PySem.W.nsIn K mainGlobals x = some (some (.ref d))) (l : K.lookup d = some ⟨.type "dict", none, .dict es n, #[]⟩)
    (kl : PySem.W.KeysLit w.params es.toList) (lo : (d == sysModules) = false) (h1 : PySem.W.nsIn K d k1 = some (some (.int v1 t1))) (h2 : PySem.W.nsIn K d k2 = some (some (.int v2 t2))) : Kd K w mg x [(k1, v1), (k2, v2)] :=
  ⟨d, es, n, PySem.W.mg_of X G a, ⟨l, kl, lo⟩, fun z v hz => by
    rw [List.lookup_cons] at hz
    cases c : z == k1 with
    | true => rw [c] at hz; cases hz; rw [eq_of_beq c]; exact ⟨t1, h1⟩
    | false =>
      rw [c, List.lookup_cons] at hz
      cases c2 : z == k2 with
      | true => rw [c2] at hz; cases hz; rw [eq_of_beq c2]; exact ⟨t2, h2⟩
      | false => rw [c2] at hz; cases hz⟩
/-! ### tuples cut -/
section
variable {X : Cx} {r : List Slot} {e a b c : Expr} {pos p2 : Pos} {ds : List D} {d : D} {C : Addr} {fs : List (Str × Fld)} {k : Bool}
theorem pp_cutT {lo hi : Option Expr} {zl zh : Option Int} (ha : PP X r a (.tup ds)) (hl : EQ X r lo zl) (hh : EQ X r hi zh) : PP X r (.Subscript a (.Slice lo hi none p2) pos) (.tup (cutD ds zl zh)) := fun F G t H A Q q =>
  oE (pe_slice sl_tupA cE cO cO) (ha F G t H A _ fun v G1 H1 e1 k1 => eq_run hl (A.ext e1) fun G2 H2 e2 => eq_run hh ((A.ext e1).ext e2) fun G3 H3 e3 => by
    cases k1 with
    | @tup l vs _ h1 h2 =>
      have e := (e1.trans e2).trans e3
      have g3 : G3 l = some (.tup vs) := e3.g _ _ (e2.g _ _ h1)
      have da := DtAll.mono (e2.g.trans e3.g) _ _ h2
      refine ⟨l, vs, rfl, SqT.of (e3.gh _ _ g3), fun w => ?_, fun w p hp => ?_⟩
      · refine q _ G3 H3 e (.tup g3 ?_)
        have : cutD ds zl zh = ds := by
          unfold cutD
          rw [h2.len] at w
          rw [w.1, w.2]; simp
        rw [this]; exact da
      · exact q _ (upd G3 p (.tup (cutV vs zl zh))) _ (e.trans (Ext.new e3.gh hp)) (.tup upd_same (DtAll.mono (Same.new (e3.gh.free hp)) _ _ (dt_cut da zl zh))))
/-- C(..) if c else D(..) -/
theorem pn_if (hc : TQ X r c k) (ha : k = true → PN X r a C fs) (hb : k = false → PN X r b C fs) : PN X r (.IfExp c a b pos) C fs := fun F G t H A Q q =>
  oE (pe_ifExp cT cE cE) (hc F G t H A _ fun G' H' e => by
    cases k with
    | true => exact ha rfl F G' t H' (A.ext e) Q fun p dx vs fps G2 H2 e2 h1 h2 h3 h4 => q p dx vs fps G2 H2 (e.trans e2) h1 h2 h3 fun a ha => ⟨e.h.free (h4 a ha).1, (h4 a ha).2⟩
    | false => exact hb rfl F G' t H' (A.ext e) Q fun p dx vs fps G2 H2 e2 h1 h2 h3 h4 => q p dx vs fps G2 H2 (e.trans e2) h1 h2 h3 fun a ha => ⟨e.h.free (h4 a ha).1, (h4 a ha).2⟩)
theorem pn_m {ns : List Str} (h : PM X r e C ns ds) : PN X r e C ((ns.zip ds).map fun p => (p.1, .d p.2)) := fun F G t H A Q q =>
  h F G t H A Q fun p dx vs G' H' e n g k l da => q p dx _ [] G' H' e k (flds_of l da) (by simp) fun a ha => by
    have : a = p := by simpa using ha
    subst this
    exact ⟨n, g⟩
end
section
variable {X : Cx} {r : List Slot} {a : Expr} {pos apos : Pos} {os xs : List D} {d : D} {C : Addr} {ns : List Str} {m : Str} {k : Nat} {Ct0 : Ct}
/-- o.m(), a new list, looked at -/
theorem pb_meth0O {pl : Sem Bool} (h : HasM X.prog X.w X.K X.mg X.base k C m Ct0) (hr : Room k X.A) (ho : PB X r a (.ins C ns os)) (hc : Ct0 [.ins C ns os] (.o xs)) (hn : m ∉ ns := by decide)
    (ht : eval (.Call (.Attribute a m apos) [] [] pos) X.env = (do
      let ov ← eval a X.env
      standAt apos.atName
      let (f, first) ← holding [ov] (getMethod ov m pl)
      callWith pos f first (backTo pos (starEach [] X.env)) (backToKw pos (keywordEach [] X.env))) := by rfl) : PB X r (.Call (.Attribute a m apos) [] [] pos) (.lst xs) := fun F G t H A Q q => by
  obtain ⟨f, fd, ps, c, mt, Fn, b⟩ := h
  refine oE (pe_meth0 (pl := pl) cE c mt Fn hr b .nil pass0 ht) (ho F G t H A _ fun v G1 H1 e1 k1 => ?_)
  cases k1 with
  | ins h1 h2 h3 =>
    refine ⟨_, _, _, rfl, h1, look_none hn, ?_⟩
    refine ⟨H1, [.ins C ns os], .o xs, Same.refl H1, .cons (.ins h1 h2 h3) .nil, hc, fun v H' ret => ?_⟩
    obtain ⟨p, vs, G', rfl, e2, n, g, h', k2⟩ := ret.extO
    exact q _ G1 H' ⟨e1.g, e1.gh.trans e2.h, e1.h.trans e2.h, e1.nw⟩ (.lst h' (DtAll.mono e2.gh _ _ k2))
end
/-! ### contracts where nothing is under way -/
/-- a name that keeps a contract where no text is under way -/
structure HasG (P : Program) (w : World) (K : PySem.W.Frag) (mg : Str → Option Value) (base : Heap) (k : Nat) (x : Str) (C : Ct) : Prop where
  ex : ∃ f fd ps, (∀ A, A.guards = some [] → Room k A → RunAt P w K mg base A f fd ps (spC K C)) ∧ (∀ ds s, C ds s → ds.length = ps.length) ∧ mg x = some (.ref f) ∧ PySem.W.keepIn K (.ref f) = true ∧ Binds K fd ps []
section
variable {P : Program} {w : World} {K : PySem.W.Frag} {mg : Str → Option Value} {base : Heap}
theorem HasG.mono {j k : Nat} {x : Str} {C : Ct} (h : HasG P w K mg base j x C) (l : j ≤ k) : HasG P w K mg base k x C := by
  obtain ⟨f, fd, ps, F, r⟩ := h
  exact ⟨f, fd, ps, fun A hg hr => F A hg (hr.mono l), r⟩
theorem has_defG {x : Str} {st : Stmt} {ps N : List Str} {k : Nat} {C : Ct} (T : Df K mg x st ps) (S : FnScope N ps (defScope st)) (hl : ∀ ds s, C ds s → ds.length = ps.length)
    (hb : ∀ ds s, C ds s → ∀ f cdv A outer s0 H E, A.guards = some [] → Room k (A.deeper (envOfC x (defScope st) s0.heap.objs.size f cdv)) →
      HS (cx0 P w K mg base N x (defScope st) f cdv A outer s0 H E) (entry N ds) (defBody st) (fun _ => s = .d .non) (fun s' _ => s' = s)) : HasG P w K mg base (k + 1) x C := by
  obtain ⟨f, fd, Fn, hm, b⟩ := T
  refine ⟨f, fd, ps, fun A hg hr => run_at hr Fn S (fun vs H Q E h => ?_) fun cdv outer s H vs Q E hr' h => ?_, hl, hm, Fn.kp, b⟩
  · obtain ⟨G, ds, sl, gh, da, c, q⟩ := h
    rw [da.len]
    exact hl ds sl c
  · obtain ⟨G, ds, sl, gh, da, c, q⟩ := h
    refine ⟨_, cSs, hb ds sl c f cdv A outer s H E hg hr' ⟨[], G, H⟩ G (L2.start N vs) H rfl ?_ _ (fun r' G' t' H' e A' => ?_) fun s' r' v t' G' H' e A' => ?_⟩
    · refine ⟨⟨Same.refl G, gh, fun _ _ q _ => q, fun _ _ q => q, fun _ z => by cases z⟩, [], ?_, by simp, fun a ha => by cases ha⟩
      unfold L2.start entry
      rw [da.len]
      exact slots_start _ da
    · subst e
      exact q .non H' ⟨r', t', G', A'.front .non⟩
    · subst e
      exact q v H' ⟨r', t', G', A'⟩
end
section
variable {X : Cx} {r : List Slot} {e : Expr} {es : List Expr} {pos p : Pos} {d : D} {ds xs : List D} {x : Str} {k : Nat} {C : Ct}
theorem call_ofG (h : HasG X.prog X.w X.K X.mg X.base k x C) (hgd : X.A.guards = some []) (hr : Room k X.A) (hg : Gl X x) (hdb : (x == ("__debug__" : Str)) = false) (he : starEach (e :: es) X.env = (false, eval e X.env) :: starEach es X.env) (hpl : (backTo pos (starEach es X.env)).any (·.1) = false) :
    PE X (.Call (.Name x p) (e :: es) [] pos) (tCall (spC X.K C) [] E0 (tAr X (e :: es))) := by
  obtain ⟨f, fd, ps, F, hl, hm, kp, b⟩ := h
  refine ⟨fun pins s t H Q I h => ?_⟩
  refine wpAny_Call_Name_kw (ld_glob I hg hm ?_ hdb)
  refine PySem.W.callWith_K (h₀ := X.base) I.ok.mod.kin kp (thn (cA.run pos pins s t H _ I h) fun us s1 ⟨vs, H1, I1, r1, q⟩ => ⟨I1.kIn, ?_⟩) he hpl
  have q : spC X.K C (vs ++ []) H1 Q E0 := q
  rw [List.append_nil] at q
  have hlen : us.length = ps.length := by
    obtain ⟨G, ds, sl, gh, da, c, _⟩ := q
    rw [← r1.length, da.len]; exact hl ds sl c
  have hb := b s1 us I1.kIn (by rw [List.append_nil]; exact hlen)
  rw [List.append_nil] at hb
  refine wpAny_call (codeAny_mono (F X.A hgd hr X.stack s1 H1 ⟨us, []⟩ us vs Q E0 I1.env0 hb r1 q) fun r s' hq => ?_)
  cases r with
  | error e => exact (show False from hq).elim
  | ok fl =>
    cases fl with
    | ret u => exact I1.after hq
    | next => exact False.elim hq
    | brk => exact False.elim hq
    | cont => exact False.elim hq
theorem pb_callG (h : HasG X.prog X.w X.K X.mg X.base k x C) (hgd : X.A.guards = some []) (hr : Room k X.A) (ha : AB X r (e :: es) ds) (hc : C ds (.d d)) (hg : Gl X x := by rfl) (hdb : (x == ("__debug__" : Str)) = false := by decide)
    (he : starEach (e :: es) X.env = (false, eval e X.env) :: starEach es X.env := by rfl) (hpl : (backTo pos (starEach es X.env)).any (·.1) = false := by rfl) : PB X r (.Call (.Name x p) (e :: es) [] pos) d := fun F G t H A Q q =>
  oE (call_ofG h hgd hr hg hdb he hpl) (ha F G t H A _ fun vs G1 H1 e1 k1 => ⟨H1, ds, .d d, Same.refl H1, by rw [List.append_nil]; exact k1, hc, fun v H' ret => by
    obtain ⟨G', e2, k2⟩ := ret.ext
    exact q v G1 H' ⟨e1.g, e1.gh.trans e2.h, e1.h.trans e2.h, e1.nw⟩ (Dt.mono e2.gh _ _ k2)⟩)
end
end DL

/-! Part 33: expressions that change the state, in displays and tests; own objects looked at whose methods hand back new lists; lists of ours with lists of ours in them. -/
namespace DL
open PySem PySem.Spec PyProof.Rows L2
/-! ### displays and tests that change the state -/
def AC (X : Cx) (r : List Slot) (es : List Expr) (ds : List D) (r' : List Slot) : Prop := ∀ (F : Fr) (G : Hp) (t : L2.St) (H : Hp), F.L = [] → At X.K F G r t H → ∀ Q : List V → Hp → Prop,
  (∀ vs G' H', Same G G' → At X.K F G' r' t H' → DtAll X.K G' vs ds → Q vs H') → tAr X es t H Q
def TL (X : Cx) (r : List Slot) (e : Expr) (b : Bool) (r' : List Slot) : Prop := ∀ (F : Fr) (G : Hp) (t : L2.St) (H : Hp), F.L = [] → At X.K F G r t H → ∀ Q : Bool → Hp → Prop, (∀ G' H', Same G G' → At X.K F G' r' t H' → Q b H') → tT X e t H Q
def WL (X : Cx) (r : List Slot) (e : Expr) (b : Bool) (r' : List Slot) : Prop := ∀ (F : Fr) (G : Hp) (t : L2.St) (H : Hp), F.L = [] → At X.K F G r t H → ∀ Q : Bool → Hp → Prop, (∀ G' H', Same G G' → At X.K F G' r' t H' → Q b H') → tW X e t H Q
section
variable {X : Cx} {r r1 r2 : List Slot} {e a b c : Expr} {es : List Expr} {pos : Pos} {d d1 d2 : D} {ds : List D} {k k' : Bool} {rest body : List Stmt} {N M : List Slot → Prop} {R : Slot → List Slot → Prop}
theorem pl_p (h : PP X r e d) : PL X r e d r := fun F G t H nl A Q q => h F G t H A Q fun v G' H' e k => q v G' H' e.g (A.ext e) k
theorem pl_is (h : PL X r e d r1) (z : d = d1) : PL X r e d1 r1 := z ▸ h
theorem ac_nil : AC X r [] [] r := fun F G t H nl A Q q => oA pa_nil (q [] G H (Same.refl G) A .nil)
theorem ac_cons (ha : PL X r e d r1) (hr : AC X r1 es ds r2) (hs : starEach (e :: es) X.env = (false, eval e X.env) :: starEach es X.env := by rfl) : AC X r (e :: es) (d :: ds) r2 := fun F G t H nl A Q q =>
  oA (pa_cons cE cA hs) (ha F G t H nl A _ fun v G1 H1 s1 A1 k1 => hr F G1 t H1 nl A1 _ fun vs G2 H2 s2 A2 k2 => q (v :: vs) G2 H2 (s1.trans s2) A2 (.cons (Dt.mono s2 _ _ k1) k2))
theorem pl_lst (h : AC X r es ds r1) (hz : ds.length ≤ sizeLine := by exact Nat.le_of_ble_eq_true rfl) : PL X r (.List es pos) (.lst ds) r1 := fun F G t H nl A Q q =>
  oE (pe_lst cA) (h F G t H nl A _ fun vs G1 H1 s1 A1 k1 => ⟨by rw [k1.len]; exact hz, fun p hp => by
    have ex : Ext G1 H1 (upd G1 p (.lst vs)) (upd H1 p (.lst vs)) := Ext.new A1.gh hp
    exact q (.ref p) (upd G1 p (.lst vs)) _ (s1.trans ex.g) (A1.ext ex) (.lst upd_same (DtAll.mono ex.g _ _ k1))⟩)
theorem pl_if (hc : TQ X r c k) (ha : k = true → PL X r a d r1) (hb : k = false → PL X r b d r1) : PL X r (.IfExp c a b pos) d r1 := fun F G t H nl A Q q =>
  oE (pe_ifExp cT cE cE) (hc F G t H A _ fun G' H' e => by
    cases k with
    | true => exact ha rfl F G' t H' nl (A.ext e) Q fun v G2 H2 s2 A2 z => q v G2 H2 (e.g.trans s2) A2 z
    | false => exact hb rfl F G' t H' nl (A.ext e) Q fun v G2 H2 s2 A2 z => q v G2 H2 (e.g.trans s2) A2 z)
theorem pl_cmp {op : CmpOp} (h : CR X op d1 d2 k) (ha : PL X r a d1 r1) (hb : PL X r1 b d2 r2) (hm : behindInMarks op b = false := by first | exact nomark _ | rfl) : PL X r (.Compare a [op] [b] pos) (.bl k) r2 := fun F G t H nl A Q q => by
  obtain ⟨rl, ho, hr⟩ := h
  exact oE (pe_cmpR ho cE cE hm) (ha F G t H nl A _ fun v G1 H1 s1 A1 k1 => hb F G1 t H1 nl A1 _ fun w G2 H2 s2 A2 k2 => hr v w H2 _ (Dt.mono (s2.trans A2.gh) _ _ k1) (Dt.mono A2.gh _ _ k2) (q _ G2 H2 (s1.trans s2) A2 (.bl k)))
theorem tl_t (h : TQ X r e k) : TL X r e k r := fun F G t H nl A Q q => h F G t H A Q fun G' H' e => q G' H' e.g (A.ext e)
theorem tl_is (h : TL X r e k r1) (z : k = k') : TL X r e k' r1 := z ▸ h
theorem tl_cmp {op : CmpOp} (h : CR X op d1 d2 k) (ha : PL X r a d1 r1) (hb : PL X r1 b d2 r2) (hm : behindInMarks op b = false := by first | exact nomark _ | rfl) : TL X r (.Compare a [op] [b] pos) k r2 := fun F G t H nl A Q q => by
  obtain ⟨rl, ho, hr⟩ := h
  exact oT (pt_cmpR ho cE cE hm) (ha F G t H nl A _ fun v G1 H1 s1 A1 k1 => hb F G1 t H1 nl A1 _ fun w G2 H2 s2 A2 k2 => hr v w H2 _ (Dt.mono (s2.trans A2.gh) _ _ k1) (Dt.mono A2.gh _ _ k2) ⟨k, rfl, q G2 H2 (s1.trans s2) A2⟩)
theorem tl_w (h : WL X r e k r1) : TL X r e k r1 := fun F G t H nl A Q q => oT cW.pt (h F G t H nl A Q q)
theorem wl_or1 (h : TL X r a k r1) : WL X r (.BoolOp .Or [a] pos) k r1 := fun F G t H nl A Q q => oW (pw_or1 cT) (h F G t H nl A Q q)
theorem wl_or {es : List Expr} (h : TL X r a false r1) (h' : WL X r1 (.BoolOp .Or (b :: es) pos) k' r2) : WL X r (.BoolOp .Or (a :: b :: es) pos) k' r2 := fun F G t H nl A Q q =>
  oW (pw_or cT cW) (h F G t H nl A _ fun G' H' s1 A1 => h' F G' t H' nl A1 Q fun G2 H2 s2 A2 => q G2 H2 (s1.trans s2) A2)
/-- if c: .. with c false -/
theorem hs_noL {bd : List Stmt} (hc : TL X r c false r1) (h : HS X r1 rest N R) : HS X r (.If c bd [] pos :: rest) N R :=
  hs_cons (M := fun r' => r' = r1) (fun F G t H nl A D n q => oS (ps_if cT cSs cSs) (hc F G t H nl A _ fun G' H' _ A' => oSs pss_nil (n r1 G' t H' rfl A'))) fun _ e => e ▸ h
end
/-! ### own objects looked at -/
def PK (X : Cx) (r : List Slot) (e : Expr) (d : D) : Prop := ∀ (F : Fr) (G : Hp) (t : L2.St) (H : Hp), At X.K F G r t H → ∀ Q : VK,
  (∀ v G' H' G'', Ext G H G' H' → Same G' G'' → Same G'' H' → (∀ a us, G' a = none → G'' a ≠ some (.tup us)) → Dt X.K G'' v d → Q v H') → tE X e t H Q
section
variable {K : PySem.W.Frag} {G H : Hp}
theorem FldsOk.lent {fs : List (Str × Fld)} {vs : List (Str × V)} {fp : List Addr} (h : FldsOk K G H fs vs fp) (gh : Same G H) : ∃ G2 ws, Same G G2 ∧ Same G2 H ∧ (∀ a us, G a = none → G2 a ≠ some (.tup us)) ∧ vs = (fs.map Prod.fst).zip ws ∧ ws.length = (fs.map Prod.fst).length ∧ DtAll K G2 ws (fs.map fun z => z.2.toD) := by
  induction h with
  | nil => exact ⟨G, [], Same.refl G, gh, (fun a us h z => by rw [h] at z; cases z), rfl, rfl, .nil⟩
  | @cons n x v fp fps fs vs h1 h2 ih =>
    obtain ⟨G2, ws, a1, a2, a3, rfl, a5, a6⟩ := ih
    cases x with
    | d x => exact ⟨G2, v :: ws, a1, a2, a3, rfl, by simp at a5 ⊢; exact a5, .cons (Dt.mono a1 _ _ h1.2) a6⟩
    | o xs =>
      obtain ⟨p, us, rfl, rfl, k1, k2⟩ := h1
      have s3 : Same G2 (upd G2 p (.lst us)) := fun a o z => by
        by_cases c : a = p
        · subst c
          have := a2 _ _ z
          rw [k1] at this
          cases this
          exact upd_same
        · rw [upd_ne c]; exact z
      refine ⟨upd G2 p (.lst us), .ref p :: ws, a1.trans s3, fun a o z => ?_, fun a vs h z => ?_, rfl, by simp at a5 ⊢; exact a5, .cons (.lst upd_same (DtAll.mono (a1.trans s3) _ _ k2)) (DtAll.mono s3 _ _ a6)⟩
      · by_cases c : a = p
        · subst c; rw [upd_same] at z; cases z; exact k1
        · rw [upd_ne c] at z; exact a2 a o z
      · by_cases c : a = p
        · subst c; rw [upd_same] at z; cases z
        · rw [upd_ne c] at z; exact a3 a vs h z
end
section
variable {X : Cx} {r : List Slot} {e a : Expr} {es : List Expr} {pos apos px : Pos} {d : D} {ds os xs : List D} {qa : Option Addr} {C : Addr} {ns : List Str} {fs : List (Str × Fld)} {x m : Str} {k : Nat} {Ct0 : Ct}
theorem pk_p (h : PP X r e d) : PK X r e d := fun F G t H A Q q => h F G t H A Q fun v G' H' e k => q v G' H' G' e (Same.refl _) e.gh (fun a us h z => by rw [h] at z; cases z) k
theorem pk_ob (i : Nat) (h : r[i]? = some (.ob qa C fs) := by rfl) (hN : X.N[i]? = some x := by rfl) (hv : Vis X.env.scope x := by first | exact Or.inl rfl | exact Or.inr (Or.inl rfl) | exact Or.inr (Or.inr rfl)) (hd : (x == ("__debug__" : Str)) = false := by decide)
    (hcd : (x == ("__classdict__" : Str)) = false := by decide) : PK X r (.Name x px) (.ins C (fs.map Prod.fst) (fs.map fun z => z.2.toD)) := fun F G t H A Q q => by
  obtain ⟨v, fp0, h1, ⟨p, dx, vs, fps, rfl, rfl, k1, k2, hq⟩, _, gn, _⟩ := A.rep h
  obtain ⟨G2, ws, a1, a2, a3, rfl, a5, a6⟩ := k2.lent A.gh
  have gp : G p = none := gn p (by simp)
  have s3 : Same G2 (upd G2 p (.ins C dx ((fs.map Prod.fst).zip ws))) := fun a o z => by
    by_cases c : a = p
    · subst c
      have := a2 _ _ z
      rw [k1] at this
      cases this
      exact upd_same
    · rw [upd_ne c]; exact z
  refine oE (pe_var hN hv hd hcd) ⟨_, h1, q _ G H (upd G2 p (.ins C dx ((fs.map Prod.fst).zip ws))) (Ext.refl A.gh) (a1.trans s3) (fun a o z => ?_) (fun a vs h z => ?_) (.ins upd_same a5 (DtAll.mono s3 _ _ a6))⟩
  · by_cases c : a = p
    · subst c; rw [upd_same] at z; cases z; exact k1
    · rw [upd_ne c] at z; exact a2 a o z
  · by_cases c : a = p
    · subst c; rw [upd_same] at z; cases z
    · rw [upd_ne c] at z; exact a3 a vs h z
/-- o.m() hands back a new list of what holds no list -/
theorem po_meth0 {pl : Sem Bool} (h : HasM X.prog X.w X.K X.mg X.base k C m Ct0) (hr : Room k X.A) (ho : PK X r a (.ins C ns os)) (hc : Ct0 [.ins C ns os] (.o xs)) (nl : ∀ d, d ∈ xs → NoL d) (hn : m ∉ ns := by decide)
    (ht : eval (.Call (.Attribute a m apos) [] [] pos) X.env = (do
      let ov ← eval a X.env
      standAt apos.atName
      let (f, first) ← holding [ov] (getMethod ov m pl)
      callWith pos f first (backTo pos (starEach [] X.env)) (backToKw pos (keywordEach [] X.env))) := by rfl) : PO X r (.Call (.Attribute a m apos) [] [] pos) xs := fun F G t H A Q q => by
  obtain ⟨f, fd, ps, c, mt, Fn, b⟩ := h
  refine oE (pe_meth0 (pl := pl) cE c mt Fn hr b .nil pass0 ht) (ho F G t H A _ fun v G1 H1 G2 e1 s2 h2 n2 k1 => ?_)
  cases k1 with
  | ins h1 i2 h3 =>
    refine ⟨_, _, _, rfl, h2 _ _ h1, look_none hn, ?_⟩
    refine ⟨G2, [.ins C ns os], .o xs, h2, .cons (.ins h1 i2 h3) .nil, hc, fun v H' ret => ?_⟩
    obtain ⟨p, vs, G3, rfl, e3, n, g, h', k3⟩ := ret.extO
    let G4 : Hp := fun a => if G2 a ≠ none ∧ G1 a = none then none else G3 a
    have out : ∀ a, (G2 a ≠ none ∧ G1 a = none) → G4 a = none := fun a c => if_pos c
    have inn : ∀ a, ¬ (G2 a ≠ none ∧ G1 a = none) → G4 a = G3 a := fun a c => if_neg c
    refine q p vs G4 H' (e1.trans ⟨fun a o z => ?_, fun a o z => ?_, e3.h, fun a ha hg => ?_⟩) (e1.h.free n) ?_ h' (NoL.tos (fun a us z => ?_) xs vs nl k3)
    · rw [inn a fun c => by rw [c.2] at z; cases z]
      exact e3.g a o (s2 a o z)
    · by_cases c : G2 a ≠ none ∧ G1 a = none
      · rw [out a c] at z; cases z
      · rw [inn a c] at z; exact e3.gh a o z
    · by_cases c : G2 a ≠ none
      · exact out a ⟨c, hg⟩
      · rw [inn a fun z => c z.1]
        exact e3.nw a ha (Classical.byContradiction c)
    · by_cases c : G2 p ≠ none ∧ G1 p = none
      · exact out p c
      · rw [inn p c]; exact g
    · rw [inn a fun c => by
        cases w : G2 a with
        | none => exact c.1 w
        | some o =>
          have := e3.g _ _ w
          rw [z] at this
          cases this
          exact n2 a us c.2 w]
      exact z
/-- o.m() hands back what stands by itself -/
theorem pb_meth0 {pl : Sem Bool} (h : HasM X.prog X.w X.K X.mg X.base k C m Ct0) (hr : Room k X.A) (ho : PB X r a (.ins C ns os)) (hc : Ct0 [.ins C ns os] (.d d)) (hn : m ∉ ns := by decide)
    (ht : eval (.Call (.Attribute a m apos) [] [] pos) X.env = (do
      let ov ← eval a X.env
      standAt apos.atName
      let (f, first) ← holding [ov] (getMethod ov m pl)
      callWith pos f first (backTo pos (starEach [] X.env)) (backToKw pos (keywordEach [] X.env))) := by rfl) : PB X r (.Call (.Attribute a m apos) [] [] pos) d := fun F G t H A Q q => by
  obtain ⟨f, fd, ps, c, mt, Fn, b⟩ := h
  refine oE (pe_meth0 (pl := pl) cE c mt Fn hr b .nil pass0 ht) (ho F G t H A _ fun v G1 H1 e1 k1 => ?_)
  cases k1 with
  | ins h1 h2 h3 =>
    refine ⟨_, _, _, rfl, h1, look_none hn, ?_⟩
    refine ⟨H1, [.ins C ns os], .d d, Same.refl H1, .cons (.ins h1 h2 h3) .nil, hc, fun v H' ret => ?_⟩
    obtain ⟨G', e2, k2⟩ := ret.ext
    exact q _ G1 H' ⟨e1.g, e1.gh.trans e2.h, e1.h.trans e2.h, e1.nw⟩ (Dt.mono e2.gh _ _ k2)
end
end DL

/-! Part 34: lists of ours with lists of ours in them; index; methods that raise; texts of deep data. -/
namespace DL
open PySem PySem.Spec PyProof.Rows L2
def cntO : List (Str × Fld) → Nat
  | [] => 0
  | (_, .d _) :: r => cntO r
  | (_, .o _) :: r => cntO r + 1
section
variable {K : PySem.W.Frag} {F : Fr} {G H : Hp} {r : List Slot} {t : L2.St}
theorem FldsOk.cnt {fs : List (Str × Fld)} {vs : List (Str × V)} {fp : List Addr} (h : FldsOk K G H fs vs fp) : fp.length = cntO fs := by
  induction h with
  | nil => rfl
  | @cons n x v fp fps fs vs h1 h2 ih =>
    cases x with
    | d x => rw [h1.1, List.nil_append, ih]; rfl
    | o xs =>
      obtain ⟨p, us, rfl, rfl, _⟩ := h1
      rw [List.singleton_append, List.length_cons, ih]; rfl
theorem FldsOk.vlen {fs : List (Str × Fld)} {vs : List (Str × V)} {fp : List Addr} (h : FldsOk K G H fs vs fp) : vs.length = fs.length := by
  induction h with
  | nil => rfl
  | cons _ _ ih => simp [ih]
theorem FldsOk.at {fs : List (Str × Fld)} {vs : List (Str × V)} {fp : List Addr} (h : FldsOk K G H fs vs fp) : ∀ {m : Nat} {n : Str} {xs : List D}, fs[m]? = some (n, .o xs) → ∃ a ws fp1 fp2, fp = fp1 ++ a :: fp2 ∧ fp1.length = cntO (fs.take m) ∧ vs[m]? = some (n, .ref a) ∧ H a = some (.lst ws) ∧ DtAll K G ws xs ∧
    ∀ G' H' ws' ys, Same G G' → (∀ b o, b ∈ fp1 ++ fp2 → H b = some o → H' b = some o) → H' a = some (.lst ws') → DtAll K G' ws' ys → FldsOk K G' H' (fs.set m (n, .o ys)) vs fp := by
  induction h with
  | nil => intro m n xs e; simp at e
  | @cons n0 x v fp fps fs vs h1 h2 ih =>
    intro m n xs e
    cases m with
    | zero =>
      have e' : (n0, x) = (n, .o xs) := by simpa using e
      cases e'
      obtain ⟨p, us, rfl, rfl, k1, k2⟩ := h1
      refine ⟨p, us, [], fps, rfl, rfl, rfl, k1, k2, fun G' H' ws' ys g k hp da => ?_⟩
      show FldsOk K G' H' ((n0, .o ys) :: fs) _ ([p] ++ fps)
      exact .cons ⟨p, ws', rfl, rfl, hp, da⟩ (h2.frame g fun b o hb => k b o hb)
    | succ m =>
      obtain ⟨a, ws, f1, f2, a1, a2, a3, a4, a5, a6⟩ := ih (m := m) (n := n) (xs := xs) (by simpa using e)
      refine ⟨a, ws, fp ++ f1, f2, by rw [a1, List.append_assoc], ?_, by simpa using a3, a4, a5, fun G' H' ws' ys g k hp da => ?_⟩
      · rw [List.length_append, a2, List.take_succ_cons]
        cases x with
        | d x => rw [h1.1]; show 0 + _ = _; rw [Nat.zero_add]; rfl
        | o xs =>
          obtain ⟨p, us, rfl, rfl, _⟩ := h1
          show 1 + _ = _ + 1
          omega
      · show FldsOk K G' H' ((n0, x) :: fs.set m (n, .o ys)) _ _
        exact .cons (h1.frame g fun b o hb => k b o (List.mem_append_left _ (List.mem_append_left _ hb))) (a6 G' H' ws' ys g (fun b o hb => k b o (by
          rcases List.mem_append.mp hb with w | w
          · exact List.mem_append_left _ (List.mem_append_right _ w)
          · exact List.mem_append_right _ w)) hp da)
/-- the list in field m of an own list, at the address a -/
theorem At.lsAt {q : List Addr} {fs : List (Str × Fld)} {i m : Nat} {n : Str} {xs : List D} {a : Addr} (A : At K F G r t H) (hi : r[i]? = some (.ls q fs)) (hm : fs[m]? = some (n, .o xs)) (hq : q[cntO (fs.take m) + 1]? = some a) :
    ∃ (p : Addr) (vs : List (Str × V)) (ws : List V), t[i]? = some (some (.ref p)) ∧ H p = some (.lst (vs.map Prod.snd)) ∧ vs.length = fs.length ∧ vs[m]? = some (n, .ref a) ∧ H a = some (.lst ws) ∧ DtAll K G ws xs ∧
    ∀ G' H' ws' ys, Ext G H G' H' → DtAll K G' ws' ys → At K F G' (r.set i (.ls q (fs.set m (n, .o ys)))) t (L2.upd H' a (.lst ws')) := by
  obtain ⟨v, fp0, h1, so, nd, gn, kk⟩ := A.rep hi
  have has := so.has
  obtain ⟨p, vs, fps, rfl, rfl, hp, fk, hpre⟩ := so
  have hlen : vs.length = fs.length := fk.vlen
  obtain ⟨a', ws, f1, f2, e0, el, hv, ha, da, hb⟩ := fk.at hm
  have ea : a' = a := by
    obtain ⟨z, hz⟩ := hpre
    have e1 : (p :: fps)[cntO (fs.take m) + 1]? = some a := by
      rw [← hz, List.getElem?_append_left (List.getElem?_eq_some_iff.mp hq).1]; exact hq
    rw [List.getElem?_cons_succ, e0, ← el, List.getElem?_append_right (Nat.le_refl _), Nat.sub_self] at e1
    simpa using e1
  subst ea
  refine ⟨p, vs, ws, h1, hp, hlen, hv, ha, da, fun G' H' ws' ys e da' => ?_⟩
  have ml : a' ∈ p :: fps := by rw [e0]; simp
  have nd2 := nd
  rw [e0, List.nodup_cons, List.nodup_append] at nd2
  obtain ⟨np, n1, n2, n3⟩ := nd2
  rw [List.nodup_cons] at n2
  have pl : p ≠ a' := fun c => np (by rw [c]; simp)
  have gl : G' a' = none := e.nw a' (has a' ml) (gn a' ml)
  have hset : t.set i (some (.ref p)) = t := by
    obtain ⟨hlt, he⟩ := List.getElem?_eq_some_iff.mp h1
    rw [← he]; exact List.set_getElem_self hlt
  have z := kk G' (L2.upd H' a' (.lst ws')) (.ls q (fs.set m (n, .o ys))) (some (.ref p)) (p :: fps) ((Ok.of_ext e has).upd ml gl)
    ⟨p, vs, fps, rfl, rfl, by rw [upd_ne pl]; exact e.h _ _ hp, hb G' (L2.upd H' a' (.lst ws')) ws' ys e.g (fun b o mb q => by
        have ne : b ≠ a' := fun c => by
          rcases List.mem_append.mp mb with w | w
          · exact n3 b w a' (by simp) c
          · exact n2.1 (c ▸ w)
        rw [upd_ne ne]; exact e.h b o q) upd_same da', hpre⟩ nd (fun b mb => ⟨e.nw b (has b mb) (gn b mb), .inr mb⟩)
  rw [hset] at z
  exact z
end
/-- slots of an argument list as fields -/
theorem slots_flds {K : PySem.W.Frag} {G H : Hp} : ∀ {fs : List (Str × Fld)} {vs : List V} {fp : List Addr}, Slots K G H (fs.map fun z => Slot.f z.2) (vs.map some) fp → FldsOk K G H fs ((fs.map Prod.fst).zip vs) fp ∧ vs.length = fs.length := by
  intro fs
  induction fs with
  | nil =>
    intro vs fp h
    cases vs with
    | nil => cases h; exact ⟨.nil, rfl⟩
    | cons v vs => cases h
  | cons z fs ih =>
    intro vs fp h
    cases vs with
    | nil => cases h
    | cons v vs =>
      cases h with
      | cons h1 h2 =>
        obtain ⟨v', e, k⟩ := h1
        cases e
        obtain ⟨a, b⟩ := ih h2
        exact ⟨.cons k a, by simp [b]⟩
theorem zip_snd {fs : List (Str × Fld)} {vs : List V} (h : vs.length = fs.length) : (((fs.map Prod.fst).zip vs).map Prod.snd) = vs := by
  rw [List.map_snd_zip]
  rw [List.length_map]; omega
section
variable {X : Cx} {r : List Slot} {e b : Expr} {es : List Expr} {pos p px py apos pe0 : Pos} {d : D} {ds xs : List D} {q : List Addr} {fs : List (Str × Fld)} {x y n : Str} {a : Addr} {rest : List Stmt} {N M : List Slot → Prop} {R : Slot → List Slot → Prop}
/-- x = [e, ..], some of the items lists of ours -/
theorem hs_asgLs (i : Nat) {s : Slot} (nd : X.N.Nodup) (ha : AS X r es (fs.map fun z => Slot.f z.2)) (k : ∀ p fps, fps.length = cntO fs → HS X (r.set i (.ls (p :: fps) fs)) rest N R) (hz : fs.length ≤ sizeLine := by exact Nat.le_of_ble_eq_true rfl) (hr : r[i]? = some s := by rfl) (hN : X.N[i]? = some x := by rfl) (hx : Loc X.env.scope x := by first | exact Or.inl rfl | exact Or.inr rfl) (hs : swapsWith (.List es pe0) (some (.Name x px)) pos.line X.env = pure false := by rfl)
    (hf : X.fn x = true ∨ X.env.scope.names.lookup x = some .local := by first | exact .inl rfl | exact .inr rfl) : HS X r (.Assign [.Name x px] (.List es pe0) pos :: rest) N R :=
  hs_cons (M := fun r' => ∃ p fps, fps.length = cntO fs ∧ r' = r.set i (.ls (p :: fps) fs)) (fun F G t H nl A D nn q => oS (ps_set nd hN hx (pe_lst cA) hs hf) (ha F G t H A _ fun vs G' H' fp e sl nf nw => by
    obtain ⟨fk, hl⟩ := slots_flds sl
    refine ⟨by rw [hl]; exact hz, fun p hp => ?_⟩
    have pf : p ∉ fp := fun z => fk.has p z hp
    have e2 : Ext G' H' G' (upd H' p (.lst vs)) := Ext.newO e.gh hp
    refine nn _ G' _ _ ⟨p, fp, fk.cnt, rfl⟩ (((A.ext e).ext e2).put hr (s' := .ls (p :: fp) fs) (v' := some (.ref p)) (fp' := p :: fp) ⟨p, (fs.map Prod.fst).zip vs, fp, rfl, rfl, ?_, ?_, List.prefix_rfl⟩ (List.nodup_cons.mpr ⟨pf, nf⟩) fun a ha => ?_)
    · rw [upd_same, zip_snd hl]
    · exact fk.frame (Same.refl _) fun a o ha w => by
        have ne : a ≠ p := fun z => pf (z ▸ ha)
        rw [upd_ne ne]; exact w
    · have hn : H a = none ∧ G' a = none := by
        rcases List.mem_cons.mp ha with rfl | w
        · exact ⟨e.h.free hp, e.gh.free hp⟩
        · exact nw a w
      exact ⟨hn.2, free_F A hn.1, fun fp' sl' => not_in A (e.trans e2) hn.1 sl'⟩)) fun _ ⟨p, fps, hl, e⟩ => e ▸ k p fps hl
/-- such a list looked at -/
theorem pb_ls (i : Nat) (h : r[i]? = some (.ls q fs) := by rfl) (hN : X.N[i]? = some x := by rfl) (hv : Vis X.env.scope x := by first | exact Or.inl rfl | exact Or.inr (Or.inl rfl) | exact Or.inr (Or.inr rfl)) (hd : (x == ("__debug__" : Str)) = false := by decide)
    (hcd : (x == ("__classdict__" : Str)) = false := by decide) : PB X r (.Name x px) (.lst (fs.map fun z => z.2.toD)) := fun F G t H A Q q => by
  obtain ⟨v, fp0, h1, ⟨p, vs, fps, rfl, rfl, k1, k2, hq⟩, _⟩ := A.rep h
  obtain ⟨ws, rfl, l, da⟩ := k2.toD A.gh
  have e : ((fs.map Prod.fst).zip ws).map Prod.snd = ws := by rw [List.map_snd_zip]; omega
  rw [e] at k1
  exact oE (pe_var hN hv hd hcd) ⟨_, h1, q _ G H (Ext.refl A.gh) (.lst k1 da)⟩
/-- x[z], a list of ours: its address -/
theorem pp_lsv (i m : Nat) {z : Int} (hb : PB X r b (.int z)) (hz : ixN fs.length z = some m) (hm : fs[m]? = some (n, .o xs)) (hq : q[cntO (fs.take m) + 1]? = some a) (h : r[i]? = some (.ls q fs) := by rfl) (hN : X.N[i]? = some x := by rfl) (hv : Vis X.env.scope x := by first | exact Or.inl rfl | exact Or.inr (Or.inl rfl) | exact Or.inr (Or.inr rfl)) (hd : (x == ("__debug__" : Str)) = false := by decide)
    (hcd : (x == ("__classdict__" : Str)) = false := by decide) (hs : PlainIx b := by exact fun _ _ => rfl) : PP X r (.Subscript (.Name x px) b pos) (.val (.ref a)) := fun F G t H A Q q0 => by
  obtain ⟨p, vs, ws, h1, h2, h3, h4, _⟩ := A.lsAt h hm hq
  refine oE (pe_ix ix_list (pe_var hN hv hd hcd) cE hs) ⟨_, h1, hb F G t H A _ fun v2 G' H' e k2 => ?_⟩
  cases k2
  refine ⟨_, _, z, .ref a, rfl, rfl, SqL.of (e.h _ _ h2), ?_, q0 _ G' H' e (.val _)⟩
  unfold atI
  rw [List.length_map, h3, hz]
  show (vs.map Prod.snd)[m]? = _
  rw [List.getElem?_map, h4]; rfl
/-- a name for such a list, looked at -/
theorem pb_al (i j m : Nat) (hm : fs[m]? = some (n, .o xs)) (hq : q[cntO (fs.take m) + 1]? = some a) (h : r[i]? = some (.ls q fs) := by rfl) (hj : r[j]? = some (.d (.val (.ref a))) := by rfl) (hN : X.N[j]? = some x := by rfl) (hv : Vis X.env.scope x := by first | exact Or.inl rfl | exact Or.inr (Or.inl rfl) | exact Or.inr (Or.inr rfl)) (hd : (x == ("__debug__" : Str)) = false := by decide)
    (hcd : (x == ("__classdict__" : Str)) = false := by decide) : PB X r (.Name x px) (.lst xs) := fun F G t H A Q q0 => by
  obtain ⟨p, vs, ws, h1, h2, h3, h4, h5, h6, _⟩ := A.lsAt h hm hq
  obtain ⟨v, g1, g2⟩ := at_d A hj
  cases g2
  exact oE (pe_var hN hv hd hcd) ⟨_, g1, q0 _ G H (Ext.refl A.gh) (.lst h5 (DtAll.mono A.gh _ _ h6))⟩
/-- y.append(e), y a name for such a list -/
theorem hs_appV (i j m : Nat) (he : PP X r e d) (hm : fs[m]? = some (n, .o xs)) (hq : q[cntO (fs.take m) + 1]? = some a) (hz : xs.length < sizeLine) (k : HS X (r.set i (.ls q (fs.set m (n, .o (xs ++ [d]))))) rest N R) (h : r[i]? = some (.ls q fs) := by rfl) (hj : r[j]? = some (.d (.val (.ref a))) := by rfl) (hN : X.N[j]? = some x := by rfl) (hv : Vis X.env.scope x := by first | exact Or.inl rfl | exact Or.inr (Or.inl rfl) | exact Or.inr (Or.inr rfl)) (hd : (x == ("__debug__" : Str)) = false := by decide)
    (hcd : (x == ("__classdict__" : Str)) = false := by decide) (hsw : swapsWith (.Call (.Attribute (.Name x px) "append" apos) [e] [] p) none pos.line X.env = pure false := by rfl)
    (hpe : ∀ {to : TE} {t : TA}, PE X (.Name x px) to → PA X [e] t → PE X (.Call (.Attribute (.Name x px) "append" apos) [e] [] p) (tBM X.K "list" rAppend to t) := by exact fun ho ha => pe_bm PySem.F.plainAttrs_list PySem.F.slot_list_append PySem.F.type_list_append mt_append ho ha)
    (hs : starEach [e] X.env = (false, eval e X.env) :: starEach [] X.env := by rfl) : HS X r (.Expr (.Call (.Attribute (.Name x px) "append" apos) [e] [] p) pos :: rest) N R :=
  hs_cons (M := fun r' => r' = r.set i (.ls q (fs.set m (n, .o (xs ++ [d]))))) (fun F G t H nl A D nn q0 => by
    obtain ⟨p, vs, ws, h1, h2, h3, h4, h5, h6, h7⟩ := A.lsAt h hm hq
    obtain ⟨v, g1, g2⟩ := at_d A hj
    cases g2
    refine oS (ps_expr (hpe (pe_var hN hv hd hcd) cA) hsw) ⟨_, g1, .inl ⟨rfl, ws, SqL.of h5⟩, aq_cons he aq_nil hs F G t H A _ fun us G' H' ee kk => ?_⟩
    cases kk with
    | cons k1 k2 =>
      cases k2
      exact ⟨a, ws, _, rfl, rfl, ee.h _ _ h5, by rw [h6.len]; exact hz, nn _ G' t _ rfl (h7 G' H' _ _ ee ((DtAll.mono ee.g _ _ h6).app (.cons k1 .nil)))⟩) fun _ e => e ▸ k
end
/-! ### xs.index(e) -/
theorem eqV_int (a b : Int) : eqV (.int a) (.int b) = decide (a = b) := by
  show (a == b) = _
  by_cases h : a = b <;> simp [h]
theorem pb_index {X : Cx} {r : List Slot} {a e : Expr} {p apos : Pos} {ns : List Int} {m : Int} {j : Nat} (ho : PB X r a (D.ints ns)) (he : PB X r e (.int m)) (hj : ns[j]? = some m) (hn : ∀ i, i < j → ns[i]? ≠ some m)
    (hpe : ∀ {to : TE} {t : TA}, PE X a to → PA X [e] t → PE X (.Call (.Attribute a "index" apos) [e] [] p) (tBM X.K "list" (rIndex X.K) to t) := by exact fun ho ha => pe_bm PySem.F.plainAttrs_list PySem.F.slot_list_index PySem.F.type_list_index mt_index ho ha)
    (hs : starEach [e] X.env = (false, eval e X.env) :: starEach [] X.env := by rfl) : PB X r (.Call (.Attribute a "index" apos) [e] [] p) (.int (j : Nat)) := fun F G t H A Q q =>
  oE (hpe cE cA) (ho F G t H A _ fun v G1 H1 e1 k1 => by
    cases k1 with
    | @lst l vs _ h1 h2 =>
      rw [h2.ints_inv] at h1
      refine ⟨.inl ⟨rfl, _, SqL.of h1⟩, ab1 he hs F G1 t H1 (A.ext e1) _ fun ws G2 H2 e2 k2 => ?_⟩
      cases k2 with
      | cons k2 k3 =>
        cases k3; cases k2
        refine ⟨l, _, .int m, j, .int m, rfl, rfl, SqL.of (e2.h _ _ h1), rfl, ?_, ?_, ?_, fun i z' hi hz => ?_, q _ G2 H2 (e1.trans e2) (.int _)⟩
        · rw [List.all_eq_true]
          intro v hv
          obtain ⟨z, _, rfl⟩ := List.mem_map.mp hv
          rfl
        · rw [List.getElem?_map, hj]; rfl
        · rw [eqV_int]; exact decide_eq_true rfl
        · rw [List.getElem?_map] at hz
          cases w : ns[i]? with
          | none => rw [w] at hz; cases hz
          | some u =>
            rw [w] at hz
            cases hz
            rw [eqV_int]
            exact decide_eq_false fun c => hn i hi (by rw [w, c]))
/-! ### methods that raise -/
structure HasMX (P : Program) (w : World) (K : PySem.W.Frag) (mg : Str → Option Value) (base : Heap) (k : Nat) (C : Addr) (m : Str) (Cx0 : CtX) : Prop where
  ex : ∃ f fd ps, Cls K C ∧ Meth K C m f ∧ FnOk P w K mg base (L2.CX P w) k f fd ps (spX K Cx0) ∧ Binds K fd ps []
theorem HasMX.mono {P : Program} {w : World} {K : PySem.W.Frag} {mg : Str → Option Value} {base : Heap} {j k : Nat} {C : Addr} {m : Str} {Cx0 : CtX} (h : HasMX P w K mg base j C m Cx0) (l : j ≤ k) : HasMX P w K mg base k C m Cx0 := by
  obtain ⟨f, fd, ps, c, mt, F, b⟩ := h
  exact ⟨f, fd, ps, c, mt, F.mono l, b⟩
theorem has_methX {P : Program} {w : World} {K : PySem.W.Frag} {mg : Str → Option Value} {base : Heap} {C : Addr} {m q : Str} {st : Stmt} {ps N : List Str} {k : Nat} {Cx0 : CtX} (T : Dm K C m q st ps) (S : FnScope N ps (defScope st)) (hl : ∀ ds c, Cx0 ds c → ds.length = ps.length)
    (hb : ∀ ds c, Cx0 ds c → ∀ f cdv A outer s0 H E, Room k (A.deeper (envOfC q (defScope st) s0.heap.objs.size f cdv)) → HX (cxX P w K mg base N q (defScope st) f cdv A outer s0 H E) (entry N ds) (defBody st) c (fun _ => True)) : HasMX P w K mg base (k + 1) C m Cx0 := by
  obtain ⟨f, fd, F, cl, mt, b⟩ := T
  refine ⟨f, fd, ps, cl, mt, F.okX S (fun vs H Q E h => ?_) (fnx_body fun ds c hc => hb ds c hc f), b⟩
  obtain ⟨G, ds, c, gh, da, hc, q⟩ := h
  rw [da.len]
  exact hl ds c hc
section
variable {X : Cx} {r : List Slot} {e a : Expr} {es : List Expr} {pos apos : Pos} {ds os : List D} {C : Addr} {ns : List Str} {m : Str} {k : Nat} {Cx0 : CtX} {c : Addr}
/-- o.m() raises -/
theorem px_meth0 {pl : Sem Bool} (h : HasMX X.prog X.w X.K X.mg X.base k C m Cx0) (hr : Room k X.A) (ho : PB X.nox r a (.ins C ns os)) (hc : Cx0 [.ins C ns os] c) (hn : m ∉ ns := by decide)
    (ht : eval (.Call (.Attribute a m apos) [] [] pos) X.env = (do
      let ov ← eval a X.env
      standAt apos.atName
      let (f, first) ← holding [ov] (getMethod ov m pl)
      callWith pos f first (backTo pos (starEach [] X.env)) (backToKw pos (keywordEach [] X.env))) := by rfl) : PX X r (.Call (.Attribute a m apos) [] [] pos) c := fun F G t H A Q W tk w => by
  obtain ⟨f, fd, ps, cl, mt, Fo, b⟩ := h
  have a1 := nE (ho F G t H A (fun v H1 => ∃ G1, Ext G H G1 H1 ∧ Dt X.K H1 v (.ins C ns os)) fun v G1 H1 e1 k1 => ⟨G1, e1, k1⟩)
  unfold tE
  intro pins s I
  refine PySem.W.methodCall_KW (pl := pl) (thn (cE.run pins s t H _ I a1) fun u s1 ⟨x, H1, I1, rx, G1, e1, k1⟩ => ?_) ht
  cases k1 with
  | @ins p dx _ _ vs _ h1 h2 h3 =>
    obtain rfl : u = Value.ref p := rx
    refine getmeth_ok I1 h1 cl mt (look_none hn) ?_
    refine PySem.W.callWith_K0 (first := [.ref p]) I1.kIn mt.kp ?_
    have q : spX X.K Cx0 [.ref p] H1 Q (fun cls d H' => W cls d t H') := ⟨H1, [.ins C ns os], c, Same.refl H1, .cons (.ins h1 h2 h3) .nil, hc, fun G' H' e2 => w G1 H' ⟨e1.g, e1.gh.trans e2.h, e1.h.trans e2.h, e1.nw⟩⟩
    have hl : ([Value.ref p] ++ ([] : List Value)).length = ps.length := Fo.len _ _ _ _ q
    refine wpAny_call (codeAny_mono (Fo.run X.A X.stack s1 H1 ⟨[.ref p], []⟩ [.ref p] [.ref p] Q _ hr I1.env0 (b s1 [.ref p] I1.kIn hl) (.cons rfl .nil) q) fun r s' hq => ?_)
    cases r with
    | error e => exact tk e s' (XE.of_call I1 (fun _ _ _ h => h) hq)
    | ok fl =>
      cases fl with
      | ret u => exact I1.after hq
      | next => exact False.elim hq
      | brk => exact False.elim hq
      | cont => exact False.elim hq
end
/-! ### texts of deep data -/
structure Sh (n b : Nat) (d : D) : Prop where
  pl : Pl n d
  sh : (toPy d).showable = true
  nd : (toPy d).hasDict = false
  sz : (toPy d).shown.length ≤ b
theorem sh_sm {n : Nat} {d : D} (h : Sm d) : Sh n 1921 d := by
  rcases h with rfl | ⟨i, rfl, hi⟩
  · exact ⟨.non, rfl, rfl, by decide +kernel⟩
  · exact ⟨.int, decide_eq_true hi, rfl, int_text_len_1921 hi⟩
theorem Sh.mono {n b c : Nat} {d : D} (h : Sh n b d) (l : b ≤ c) : Sh n c d := ⟨h.pl, h.sh, h.nd, Nat.le_trans h.sz l⟩
theorem sh_all {n b : Nat} : ∀ {l : List D}, (∀ d, d ∈ l → Sh n b d) → PyData.showableAll (toPys l) = true ∧ PyData.hasDictAll (toPys l) = false ∧ piled (PyData.shownAll (toPys l)) ≤ (b + 2) * l.length
  | [], _ => ⟨rfl, rfl, Nat.le_refl _⟩
  | d :: l, h => by
    obtain ⟨a1, a2, a3⟩ := sh_all (l := l) fun x hx => h x (List.mem_cons_of_mem _ hx)
    have hd := h d (List.mem_cons_self ..)
    refine ⟨?_, ?_, ?_⟩
    · show (_ && _) = true
      rw [hd.sh, a1]; rfl
    · show (_ || _) = false
      rw [hd.nd, a2]; rfl
    · show piled (_ :: _) ≤ _
      rw [piled_cons, List.length_cons, Nat.mul_add, Nat.mul_one]
      have := hd.sz
      omega
theorem sh_lst {n b : Nat} {l : List D} (h : ∀ d, d ∈ l → Sh n b d) : Sh (n + 1) ((b + 2) * l.length + 2) (.lst l) := by
  obtain ⟨a1, a2, a3⟩ := sh_all h
  refine ⟨.lst fun d hd => (h d hd).pl, a1, a2, ?_⟩
  show (listText (PyData.shownAll (toPys l))).length ≤ _
  have := lst_len (PyData.shownAll (toPys l))
  omega
theorem sh_tup {n b : Nat} {l : List D} (h : ∀ d, d ∈ l → Sh n b d) : Sh (n + 1) ((b + 2) * l.length + 3) (.tup l) := by
  obtain ⟨a1, a2, a3⟩ := sh_all h
  refine ⟨.tup fun d hd => (h d hd).pl, a1, a2, ?_⟩
  show (tupleText (PyData.shownAll (toPys l))).length ≤ _
  have := tup_len (PyData.shownAll (toPys l))
  omega
theorem shw_of {n b : Nat} {l : List D} (h : Sh n b (.lst l)) (hb : b ≤ 16777216) : Shw n (.lst l) := ⟨h.pl, .inl ⟨l, rfl⟩, h.sh, h.nd, by rw [sizeLine_eq]; exact Nat.le_trans h.sz hb⟩
theorem Pl.up {n m : Nat} {d : D} (h : Pl n d) (l : n ≤ m) : Pl m d := by
  induction h generalizing m with
  | non => exact .non
  | bl => exact .bl
  | int => exact .int
  | str h => exact .str h
  | lst _ ih =>
    cases m with
    | zero => omega
    | succ m => exact .lst fun d hd => ih d hd (by omega)
  | tup _ ih =>
    cases m with
    | zero => omega
    | succ m => exact .tup fun d hd => ih d hd (by omega)
  | scr =>
    cases m with
    | zero => omega
    | succ m => exact .scr
theorem Sh.up {n m b : Nat} {d : D} (h : Sh n b d) (l : n ≤ m) : Sh m b d := ⟨h.pl.up l, h.sh, h.nd, h.sz⟩
/-! ### several names at once -/
structure Pt where
  i : Nat
  s : Slot
  v : Option V
  fp : List Addr
def setR (r : List Slot) (ps : List Pt) : List Slot := ps.foldl (fun r p => r.set p.i p.s) r
def setT (t : L2.St) (ps : List Pt) : L2.St := ps.foldl (fun t p => t.set p.i p.v) t
theorem At.puts {K : PySem.W.Frag} {F : Fr} {G H : Hp} : ∀ (ps : List Pt) {r : List Slot} {t : L2.St}, At K F G r t H → (∀ fp, Slots K G H r t fp → ∀ p, p ∈ ps → ∀ a, a ∈ p.fp → a ∉ fp) → (ps.map Pt.fp).flatten.Nodup → (∀ p, p ∈ ps → SlotOk K G H p.s p.v p.fp ∧ p.i < r.length ∧ ∀ a, a ∈ p.fp → G a = none ∧ F.H a = none) → At K F G (setR r ps) (setT t ps) H
  | [], _, _, A, _, _, _ => A
  | p :: ps, r, t, A, ho, nd, hk => by
    rw [List.map_cons, List.flatten_cons, List.nodup_append] at nd
    obtain ⟨n1, n2, n3⟩ := nd
    obtain ⟨k1, k2, k3⟩ := hk p (List.mem_cons_self ..)
    have hr : r[p.i]? = some r[p.i] := List.getElem?_eq_getElem k2
    have A1 := A.put hr k1 n1 fun a ha => ⟨(k3 a ha).1, (k3 a ha).2, fun fp sl => ho fp sl p (List.mem_cons_self ..) a ha⟩
    refine At.puts ps A1 (fun fp sl p' hp' a ha hm => ?_) n2 fun p' hp' => ?_
    · obtain ⟨_, fp0, sl0, _, _⟩ := A
      obtain ⟨v, g1, g0, g2, h1, h2, h3, h4⟩ := sl0.split hr
      have sl1 := h4 G H p.s p.v p.fp (Same.refl _) (fun _ _ _ w => w) k1
      rw [sl.uniq sl1] at hm
      have no := ho fp0 sl0 p' (List.mem_cons_of_mem _ hp') a ha
      rw [h2] at no
      rcases List.mem_append.mp hm with w | w
      · exact no (List.mem_append_left _ w)
      · rcases List.mem_append.mp w with w | w
        · exact n3 a w a (List.mem_flatten.mpr ⟨p'.fp, List.mem_map.mpr ⟨p', hp', rfl⟩, ha⟩) rfl
        · exact no (List.mem_append_right _ (List.mem_append_right _ w))
    · obtain ⟨a1, a2, a3⟩ := hk p' (List.mem_cons_of_mem _ hp')
      exact ⟨a1, by rw [List.length_set]; exact a2, a3⟩
section
variable {X : Cx} {r : List Slot} {a b c d : Expr} {pos px py pz pu pt pt2 : Pos} {kt k2 : Nat} {x y z u : Str} {s1 s2 s3 s4 u1 u2 u3 u4 : Slot} {rest : List Stmt} {N : List Slot → Prop} {R : Slot → List Slot → Prop}
/-- x, y, z, u = e1, e2, e3, e4 -/
theorem hs_parT4 (i j l m : Nat) (nd : X.N.Nodup) (ha : AS X r [a, b, c, d] [u1, u2, u3, u4]) (k : HS X ((((r.set i u1).set j u2).set l u3).set m u4) rest N R) (hr : i < r.length := by exact Nat.le_of_ble_eq_true rfl) (hr2 : j < r.length := by exact Nat.le_of_ble_eq_true rfl) (hr3 : l < r.length := by exact Nat.le_of_ble_eq_true rfl) (hr4 : m < r.length := by exact Nat.le_of_ble_eq_true rfl) (hN : X.N[i]? = some x := by rfl) (hN2 : X.N[j]? = some y := by rfl) (hN3 : X.N[l]? = some z := by rfl) (hN4 : X.N[m]? = some u := by rfl)
    (hx : Loc X.env.scope x := by first | exact Or.inl rfl | exact Or.inr rfl) (hx2 : Loc X.env.scope y := by first | exact Or.inl rfl | exact Or.inr rfl) (hx3 : Loc X.env.scope z := by first | exact Or.inl rfl | exact Or.inr rfl) (hx4 : Loc X.env.scope u := by first | exact Or.inl rfl | exact Or.inr rfl)
    (hf : X.fn x = true ∨ X.env.scope.names.lookup x = some .local := by first | exact .inl rfl | exact .inr rfl) (hf2 : X.fn y = true ∨ X.env.scope.names.lookup y = some .local := by first | exact .inl rfl | exact .inr rfl) (hf3 : X.fn z = true ∨ X.env.scope.names.lookup z = some .local := by first | exact .inl rfl | exact .inr rfl) (hf4 : X.fn u = true ∨ X.env.scope.names.lookup u = some .local := by first | exact .inl rfl | exact .inr rfl)
    (hc : X.calm = true := by rfl) (hs : swapsWithSole [.Tuple [.Name x px, .Name y py, .Name z pz, .Name u pu] kt pt] (.Tuple [a, b, c, d] k2 pt2) pos.line X.env = pure false := by rfl) (hw : swappedStores [.Tuple [.Name x px, .Name y py, .Name z pz, .Name u pu] kt pt] (.Tuple [a, b, c, d] k2 pt2) X.env = pure none := by rfl)
    (h1 : (assignEach [.Tuple [.Name x px, .Name y py, .Name z pz, .Name u pu] kt pt] X.env).map (·.2) = [assign (.Tuple [.Name x px, .Name y py, .Name z pz, .Name u pu] kt pt) X.env] := by rfl)
    (hg1 : (assignEach [.Name x px, .Name y py, .Name z pz, .Name u pu] X.env).map (·.2) = assign (.Name x px) X.env :: (assignEach [.Name y py, .Name z pz, .Name u pu] X.env).map (·.2) := by rfl) (hg2 : (assignEach [.Name y py, .Name z pz, .Name u pu] X.env).map (·.2) = assign (.Name y py) X.env :: (assignEach [.Name z pz, .Name u pu] X.env).map (·.2) := by rfl) (hg3 : (assignEach [.Name z pz, .Name u pu] X.env).map (·.2) = assign (.Name z pz) X.env :: (assignEach [.Name u pu] X.env).map (·.2) := by rfl) (hg4 : (assignEach [.Name u pu] X.env).map (·.2) = assign (.Name u pu) X.env :: (assignEach [] X.env).map (·.2) := by rfl)
    (hn : (assignEach [.Name x px, .Name y py, .Name z pz, .Name u pu] X.env).length = 4 := by rfl) (hst : (assignEach [.Name x px, .Name y py, .Name z pz, .Name u pu] X.env).findIdx? (·.1) = none := by rfl) :
    HS X r (.Assign [.Tuple [.Name x px, .Name y py, .Name z pz, .Name u pu] kt pt] (.Tuple [a, b, c, d] k2 pt2) pos :: rest) N R :=
  hs_cons (M := fun r' => r' = (((r.set i u1).set j u2).set l u3).set m u4) (fun F G t H nl A D n q => oS (ps_asg (pe_tup cA) (pg_tup hc (pgs_cons (pg_name (i := i) nd hN hx hf) (pgs_cons (pg_name (i := j) nd hN2 hx2 hf2) (pgs_cons (pg_name (i := l) nd hN3 hx3 hf3) (pgs_cons (pg_name (i := m) nd hN4 hx4 hf4) pgs_nil hg4) hg3) hg2) hg1) hn hst) hs hw h1) (ha F G t H A _ fun vs G' H' fp e sl nf nw => by
    match vs, sl with
    | [v1, v2, v3, v4], .cons (fp := f1) q1 (.cons (fp := f2) q2 (.cons (fp := f3) q3 (.cons (fp := f4) q4 .nil))) =>
      have mem : ∀ p, p ∈ ([⟨i, u1, some v1, f1⟩, ⟨j, u2, some v2, f2⟩, ⟨l, u3, some v3, f3⟩, ⟨m, u4, some v4, f4⟩] : List Pt) → ∀ a, a ∈ p.fp → H a = none ∧ G' a = none := fun p hp a ha => nw a (by
        simp only [List.mem_cons, List.not_mem_nil, or_false] at hp
        rcases hp with rfl | rfl | rfl | rfl
        · exact List.mem_append_left _ ha
        · exact List.mem_append_right _ (List.mem_append_left _ ha)
        · exact List.mem_append_right _ (List.mem_append_right _ (List.mem_append_left _ ha))
        · exact List.mem_append_right _ (List.mem_append_right _ (List.mem_append_right _ (List.mem_append_left _ ha))))
      have A4 := At.puts [⟨i, u1, some v1, f1⟩, ⟨j, u2, some v2, f2⟩, ⟨l, u3, some v3, f3⟩, ⟨m, u4, some v4, f4⟩] (A.ext e) (fun fp sl p hp a ha => not_in A e (mem p hp a ha).1 sl) nf fun p hp => by
        have mp := mem p hp
        simp only [List.mem_cons, List.not_mem_nil, or_false] at hp
        rcases hp with rfl | rfl | rfl | rfl
        · exact ⟨q1, hr, fun a ha => ⟨(mp a ha).2, free_F A (mp a ha).1⟩⟩
        · exact ⟨q2, hr2, fun a ha => ⟨(mp a ha).2, free_F A (mp a ha).1⟩⟩
        · exact ⟨q3, hr3, fun a ha => ⟨(mp a ha).2, free_F A (mp a ha).1⟩⟩
        · exact ⟨q4, hr4, fun a ha => ⟨(mp a ha).2, free_F A (mp a ha).1⟩⟩
      refine ⟨by show 4 ≤ sizeLine; rw [sizeLine_eq]; omega, fun p0 hp0 => ?_⟩
      exact ⟨p0, [v1, v2, v3, v4], rfl, SqT.of upd_same, rfl, v1, [v2, v3, v4], rfl, v2, [v3, v4], rfl, v3, [v4], rfl, v4, [], rfl, rfl, n _ G' _ _ rfl (A4.ext (Ext.newO A4.gh hp0))⟩)) fun _ e => e ▸ k
end
end DL

/-! Part 35: wide powers; in and index, lists of lists. -/
namespace DL
open PySem PySem.Spec PyProof.Rows L2
theorem units65 {k : Nat} {A : Around} (hr : Room k A) : A.units + 65 < cLine := by have := hr.un; omega
def CPowX (i j : Int) : Prop := 0 ≤ j ∧ (Builtin.Int.intBits i : Int) * j ≤ 2 ^ 27
theorem op_powX {X : Cx} : OpR X (binaryOp .Pow) (rI CPowX fun i j => .int (i ^ j.toNat)) := opI fun _ _ _ _ _ _ _ hc q => pow_int hc.1 hc.2 q
section
variable {X : Cx} {r : List Slot} {a b e : Expr} {pos p apos : Pos} {i j : Int} {rows : List (List Int)} {ns : List Int}
theorem pb_powX (ha : PB X r a (.int i)) (hb : PB X r b (.int j)) (hc : CPowX i j) : PB X r (.BinOp a .Pow b pos) (.int (i ^ j.toNat)) := pb_iic (pe_op op_powX cE cE) ha hb hc
theorem pl_rows (rows : List (List Int)) : Pl 2 (.lst (rows.map D.ints)) := .lst fun d hd => by
  obtain ⟨l, _, rfl⟩ := List.mem_map.mp hd
  exact .ints
theorem toPy_rows (rows : List (List Int)) : toPy (.lst (rows.map D.ints)) = .list (rows.map fun l => toPy (D.ints l)) := by
  show PyData.list (toPys (rows.map D.ints)) = _
  rw [toPys_map, List.map_map]; rfl
theorem eqv_ints (a b : List Int) : PyData.eqv (toPy (D.ints a)) (toPy (D.ints b)) = decide (a = b) := eqvs_ints a b
theorem cr_inLL {k : Nat} (hr : Room k X.A) : CR X .In (D.ints ns) (.lst (rows.map D.ints)) (decide (ns ∈ rows)) := ⟨_, op_inD (units65 hr), fun v1 v2 H Q k1 k2 q => by
  have d2 := Dt.dp _ _ 2 (pl_rows rows) k2
  have s2 := (pl_rows rows).shaped (by decide)
  rw [toPy_rows] at d2 s2
  refine ⟨toPy (D.ints ns), _, Dt.dp _ _ 1 Pl.ints k1, d2, (Pl.ints (n := 0)).shaped (by decide), s2, ?_⟩
  have e : ((rows.map fun l => toPy (D.ints l)).any fun z => PyData.eqv z (toPy (D.ints ns))) = decide (ns ∈ rows) := by
    rw [List.any_map, Bool.eq_iff_iff, List.any_eq_true, decide_eq_true_iff]
    constructor
    · rintro ⟨l, hl, e⟩
      have e : PyData.eqv (toPy (D.ints l)) (toPy (D.ints ns)) = true := e
      rw [eqv_ints] at e
      rw [← of_decide_eq_true e]; exact hl
    · intro hl
      exact ⟨ns, hl, by show PyData.eqv (toPy (D.ints ns)) (toPy (D.ints ns)) = true; rw [eqv_ints]; exact decide_eq_true rfl⟩
  rw [e]; exact q⟩
theorem pb_indexLL {k j : Nat} (hr : Room k X.A) (ho : PB X r a (.lst (rows.map D.ints))) (he : PB X r e (D.ints ns)) (hj : rows[j]? = some ns) (hn : ∀ i, i < j → rows[i]? ≠ some ns)
    (hpe : ∀ {to : TE} {t : TA}, PE X a to → PA X [e] t → PE X (.Call (.Attribute a "index" apos) [e] [] p) (tBM X.K "list" (rIndexD X.K) to t) := by exact fun ho ha => pe_bm PySem.F.plainAttrs_list PySem.F.slot_list_index PySem.F.type_list_index (mt_indexD (units65 hr)) ho ha)
    (hs : starEach [e] X.env = (false, eval e X.env) :: starEach [] X.env := by rfl) : PB X r (.Call (.Attribute a "index" apos) [e] [] p) (.int (j : Nat)) := fun F G t H A Q q =>
  oE (hpe cE cA) (ho F G t H A _ fun v G1 H1 e1 k1 => by
    have kk := k1
    cases k1 with
    | @lst l vs _ h1 h2 =>
      refine ⟨.inl ⟨rfl, _, SqL.of h1⟩, ab1 he hs F G1 t H1 (A.ext e1) _ fun ws G2 H2 e2 k2 => ?_⟩
      cases k2 with
      | cons k2 k3 =>
        cases k3
        have d2 := Dt.dp _ _ 2 (pl_rows rows) (Dt.mono e2.h _ _ kk)
        have s2 := (pl_rows rows).shaped (by decide)
        rw [toPy_rows] at d2 s2
        refine ⟨l, _, toPy (D.ints ns), _, j, toPy (D.ints ns), rfl, rfl, d2, Dt.dp _ _ 1 Pl.ints k2, s2, (Pl.ints (n := 0)).shaped (by decide), ?_, ?_, fun i z' hi hz => ?_, q _ G2 H2 (e1.trans e2) (.int _)⟩
        · rw [List.getElem?_map, hj]; rfl
        · rw [eqv_ints]; exact decide_eq_true rfl
        · rw [List.getElem?_map] at hz
          cases w : rows[i]? with
          | none => rw [w] at hz; cases hz
          | some u =>
            rw [w] at hz
            cases hz
            rw [eqv_ints]
            exact decide_eq_false fun c => hn i hi (by rw [w, c]))
end
end DL

/-! Part 36: lists handed over and handed back with what is in them; pop(0); comprehensions over range(a, b) and over pairs. -/
namespace DL
open PySem PySem.Spec PyProof.Rows L2
/-! ### another entry: all that is ours apart -/
section
variable {K : PySem.W.Frag} {F : Fr} {G H G' H' : Hp} {r r' : List Slot} {t t' : L2.St} {fp : List Addr}
theorem At.base0 (A : At K F G r t H) (sl : Slots K G H r t fp) : At K ⟨[], G, cut H fp⟩ G r t H := by
  obtain ⟨o, fp', sl', nd, fr⟩ := A
  have e := sl.uniq sl'
  subst e
  exact ⟨⟨Same.refl G, o.gh, fun a u q _ => (cut_some q).2, fun _ _ q => q, fun _ z => by cases z⟩, fp, sl, nd, fun a ha => ⟨(fr a ha).1, .inl (cut_in ha)⟩⟩
theorem At.through (A : At K F G r t H) (nl : F.L = []) (sl : Slots K G H r t fp) (A' : At K ⟨[], G, cut H fp⟩ G' r' t' H') : At K F G' r' t' H' := by
  obtain ⟨o, fp0, sl0, nd, fr⟩ := A
  have e := sl.uniq sl0
  subst e
  obtain ⟨o', fp', sl', nd', fr'⟩ := A'
  have fr0 : ∀ a, a ∈ fp → F.H a = none := fun a ha => (fr a ha).2.elim id fun z => by rw [nl] at z; cases z
  have out : ∀ a, F.H a ≠ none → a ∉ fp := fun a h w => h (fr0 a w)
  have fN : ∀ a, H a = none → F.H a = none := fun a n => by
    cases z : F.H a with
    | none => rfl
    | some u => exact absurd n (o.ne (by rw [z]; exact fun w => by cases w))
  refine ⟨⟨o.g.trans o'.g, o'.gh, fun a u q nl' => ?_, fun a h g => ?_, fun a ha => by rw [nl] at ha; cases ha⟩, fp', sl', nd', fun a ha => ⟨(fr' a ha).1, .inl ?_⟩⟩
  · exact o'.h a u (by show cut _ _ a = _; rw [cut_out (out a (by rw [q]; exact fun z => by cases z))]; exact o.h a u q nl') (by simp)
  · exact o'.nw a (by show cut _ _ a ≠ _; rw [cut_out (out a h)]; exact o.ne h) (o.nw a h g)
  · rcases (fr' a ha).2 with z | z
    · rcases cut_none z with c | c
      · exact fr0 a c
      · exact fN a c
    · cases z
end
/-! ### lists whose items are known -/
def PI (X : Cx) (r : List Slot) (e : Expr) (xs : List D) : Prop := ∀ (F : Fr) (G : Hp) (t : L2.St) (H : Hp), At X.K F G r t H → ∀ Q : VK, (∀ p vs G' H', Ext G H G' H' → H' p = some (.lst vs) → DtAll X.K G' vs xs → Q (.ref p) H') → tE X e t H Q
section
variable {X : Cx} {r : List Slot} {e a b it elt : Expr} {es ifs : List Expr} {pos p px py tpos apos : Pos} {d : D} {ds xs ys : List D} {x y : Str} {lo hi : Int} {rest : List Stmt} {N : List Slot → Prop} {R : Slot → List Slot → Prop}
theorem pi_o (h : PO X r e xs) : PI X r e xs := fun F G t H A Q q => h F G t H A Q fun p vs G' H' e n g k da => q p vs G' H' e k da
theorem pi_p (h : PP X r e (.lst xs)) : PI X r e xs := fun F G t H A Q q => h F G t H A Q fun v G' H' e k => by
  cases k with
  | lst h1 h2 => exact q _ _ G' H' e (e.gh _ _ h1) h2
theorem pi_w (i : Nat) (h : r[i]? = some (.o xs) := by rfl) (hN : X.N[i]? = some x := by rfl) (hv : Vis X.env.scope x := by first | exact Or.inl rfl | exact Or.inr (Or.inl rfl) | exact Or.inr (Or.inr rfl)) (hd : (x == ("__debug__" : Str)) = false := by decide)
    (hcd : (x == ("__classdict__" : Str)) = false := by decide) : PI X r (.Name x px) xs := fun F G t H A Q q => by
  obtain ⟨p, vs, h1, h2, h3⟩ := at_o A h
  exact oE (pe_var hN hv hd hcd) ⟨_, h1, q _ _ G H (Ext.refl A.gh) h2 h3⟩
theorem po_catI (ha : PI X r a xs) (hb : PI X r b ys) (hz : xs.length + ys.length ≤ sizeLine) : PO X r (.BinOp a .Add b pos) (xs ++ ys) := fun F G t H A Q q =>
  oE (pe_op op_cat cE cE) (ha F G t H A _ fun p1 vs G1 H1 e1 h1 d1 => hb F G1 t H1 (A.ext e1) _ fun p2 ws G2 H2 e2 h2 d2 => by
    have e := e1.trans e2
    exact ⟨_, _, _, _, rfl, rfl, e2.h _ _ h1, h2, by rw [d1.len, d2.len]; exact hz, fun p hp => q p _ G2 _ (e.trans (Ext.newO e.gh hp)) (e.h.free hp) (e.gh.free hp) upd_same ((DtAll.mono e2.g _ _ d1).app d2)⟩)
theorem po_listI (B : Bi X.mg) (ha : PI X r a ds) (hs : starEach [a] X.env = (false, eval a X.env) :: starEach [] X.env := by rfl) (hg : Gl X "list" := by rfl) (hp : (backTo pos (starEach [] X.env)).any (·.1) = false := by rfl) : PO X r (.Call (.Name "list" p) [a] [] pos) ds := fun F G t H A Q q =>
  oE (pe_callTy call_list_of hg B.list (by decide +kernel) (pa_cons cE pa_nil hs) (he := hs) (hpl := hp)) (ha F G t H A _ fun p1 vs G1 H1 e1 h1 d1 => ⟨_, _, rfl, .inl (SqL.of h1), fun l hl => q l _ G1 _ (e1.trans (Ext.newO e1.gh hl)) (e1.h.free hl) (e1.gh.free hl) upd_same d1⟩)
/-- x = xs.pop(0) -/
theorem hs_asgPop0 (i j : Nat) {s : Slot} {k0 : Nat} {pz pos0 : Pos} (nd : X.N.Nodup) (k : HS X ((r.set j (.o xs)).set i (.d d)) rest N R) (hij : i ≠ j := by decide) (hr : r[i]? = some s := by rfl) (hj : r[j]? = some (.o (d :: xs)) := by rfl) (hN : X.N[i]? = some x := by rfl) (hx : Loc X.env.scope x := by first | exact Or.inl rfl | exact Or.inr rfl)
    (hf : X.fn x = true ∨ X.env.scope.names.lookup x = some .local := by first | exact .inl rfl | exact .inr rfl) (hNj : X.N[j]? = some y := by rfl) (hv : Vis X.env.scope y := by first | exact Or.inl rfl | exact Or.inr (Or.inl rfl) | exact Or.inr (Or.inr rfl)) (hd : (y == ("__debug__" : Str)) = false := by decide) (hcd : (y == ("__classdict__" : Str)) = false := by decide)
    (hs : swapsWith (.Call (.Attribute (.Name y py) "pop" apos) [.Constant (.int 0) k0 pz] [] p) (some (.Name x px)) pos0.line X.env = pure false := by rfl)
    (hpe : ∀ {to : TE} {t : TA}, PE X (.Name y py) to → PA X [.Constant (.int 0) k0 pz] t → PE X (.Call (.Attribute (.Name y py) "pop" apos) [.Constant (.int 0) k0 pz] [] p) (tBM X.K "list" rPopAt to t) := by exact fun ho ha => pe_bm PySem.F.plainAttrs_list PySem.F.slot_list_pop PySem.F.type_list_pop mt_popAt ho ha)
    (hst : starEach [.Constant (.int 0) k0 pz] X.env = (false, eval (.Constant (.int 0) k0 pz) X.env) :: starEach [] X.env := by rfl) : HS X r (.Assign [.Name x px] (.Call (.Attribute (.Name y py) "pop" apos) [.Constant (.int 0) k0 pz] [] p) pos0 :: rest) N R :=
  hs_cons (M := fun r' => r' = (r.set j (.o xs)).set i (.d d)) (fun F G t H nl A D nn q => by
    obtain ⟨l, vs, h1, h2, h3, h4, h5⟩ := A.upd hj
    cases h3 with
    | @cons v vs _ _ kd kt =>
      refine oS (ps_set nd hN hx (hpe (pe_var hNj hv hd hcd) (pa_cons pe_int pa_nil hst)) hs hf) ⟨_, h1, .inl ⟨rfl, _, SqL.of h2⟩, l, v :: vs, 0, 0, v, rfl, rfl, h2, by decide, by decide, ?_, rfl, ?_⟩
      · rw [List.length_cons]
        unfold seqIndex?
        simp
      · have A1 := h5 G H vs xs (Ext.refl A.gh) kt
        exact nn _ G _ _ rfl (A1.asg (by rw [List.getElem?_set_ne hij.symm]; exact hr) kd)) fun _ e => e ▸ k
/-- [elt for x in range(lo, hi) if ..] -/
theorem po_lcR2 {scope : Scope} {cpos : Pos} (B : Bi X.mg) (j : Nat) {s : Slot} (nd : X.N.Nodup) (f : Nat → Bool) (g : Nat → D) (ha : PB X r a (.int lo)) (hb' : PB X r b (.int hi)) (hn : -(2 ^ 62) ≤ lo ∧ lo < 2 ^ 62 ∧ -(2 ^ 62) ≤ hi ∧ hi < 2 ^ 62) (hz : (hi - lo).toNat ≤ sizeLine)
    (ht : ∀ k : Nat, lo + (k : Int) < hi → ∀ s H C cl fp, FQ (Blk X scope s H C cl fp) (r.set j (.d (.int (lo + k)))) ifs (f k)) (he : ∀ k : Nat, lo + (k : Int) < hi → f k = true → ∀ s H C cl fp, PP (Blk X scope s H C cl fp) (r.set j (.d (.int (lo + k)))) elt (g k))
    (ok : BlkOk X.N X.env.scope scope [(x, j)] := by exact blkOk_by (by kernel_rfl)) (hb : BlkN X scope x px j := by first | exact fun _ _ _ _ _ => pg_name (by assumption) rfl (Or.inl rfl) | exact fun _ _ _ _ _ => pg_name (by assumption) rfl (Or.inr rfl)) (hr : r[j]? = some s := by rfl) (hc : X.calm = true := by rfl) (hg : Gl X "range" := by rfl) (hs : starEach [a, b] X.env = [(false, eval a X.env), (false, eval b X.env)] := by rfl) (hs2 : starEach [b] X.env = [(false, eval b X.env)] := by rfl) (hfs : ∀ x, foldedSetIterable (.Call (.Name "range" p) [a, b] [] cpos) X.env x = pure x := by intro _; rfl) :
    PO X r (.ListComp elt [⟨.Name x px, .Call (.Name "range" p) [a, b] [] cpos, ifs, 0⟩] scope pos) (madeD f g (hi - lo).toNat) := fun F G t H A Q q => by
  refine oE (pe_lc (own := [(x, j)]) (g := gName j) (tt := bTs X scope ifs) (te := bE X scope elt) hc nd (pi_range2 hg B.range cA hs hs2) ok (bg_of hb) bts_of be_of hfs) (ab2 ha hb' (by rw [hs, hs2]) hs2 F G t H A _ fun vs G1 H1 e1 k1 => ?_)
  cases k1 with
  | cons k1 k2 =>
    cases k2 with
    | cons k2 k3 =>
      cases k3; cases k1; cases k2
      have A1 := A.ext e1
      refine ⟨lo, hi, rfl, hn, fun L hL => lc_range (lo := lo) (n := (hi - lo).toNat) (Cw X.K G1 H1 f g L) (cw_start A1.gh hL) (fun k H' hk c => ?_) fun H' c => cw_end e1 hL c q⟩
      exact cw_turn (d := .int (lo + k)) A1 hr hL c (by omega) (fun _ _ => .int _) (ht k (by omega)) (he k (by omega))
theorem cw_turnP {scope : Scope} {F : Fr} {G1 : Hp} {t : L2.St} {H1 H0 : Hp} {f : Nat → Bool} {g : Nat → D} {L T : Addr} {k i j : Nat} {s1 s2 : Slot} {u v : V} {d1 d2 : D} (A : At X.K F G1 r t H1) (hij : i ≠ j) (hr : r[i]? = some s1) (hr2 : r[j]? = some s2) (hL : H1 L = none) (c : Cw X.K G1 H1 f g L k H0) (hT : H1 T = some (.tup [u, v])) (hk : k < sizeLine)
    (kd : Dt X.K G1 u d1) (kd2 : Dt X.K G1 v d2) (ht : ∀ s H C cl fp, FQ (Blk X scope s H C cl fp) ((r.set i (.d d1)).set j (.d d2)) ifs (f k)) (he : f k = true → ∀ s H C cl fp, PP (Blk X scope s H C cl fp) ((r.set i (.d d1)).set j (.d d2)) elt (g k)) :
    gTwo X.K i j (.ref T) (L2.wipe t [i, j]) H0 fun t2 H2 => L2.wipe t2 [i, j] = L2.wipe t [i, j] ∧ bTs X scope ifs t2 H2 fun b H3 => if b = true then bE X scope elt t2 H3 fun y H4 => ∃ acc, H4 L = some (.lst acc) ∧ acc.length < sizeLine ∧ Cw X.K G1 H1 f g L (k + 1) (upd H4 L (.lst (acc ++ [y]))) else Cw X.K G1 H1 f g L (k + 1) H3 := by
  obtain ⟨G', vs, e, gl, hl, da⟩ := c
  have kd := Dt.mono e.g _ _ kd
  have kd2 := Dt.mono e.g _ _ kd2
  refine ⟨T, [u, v], rfl, SqT.of (e.h _ _ hT), rfl, u, [v], rfl, v, [], rfl, rfl, wipe2 hij, ?_⟩
  have A' := A.ext e
  refine fun s0 H0 C cl fp => ht s0 H0 C cl fp F G' _ _ (A'.in2 hij hr hr2 kd kd2) _ fun G3 H3 e3 => ?_
  have gl3 : G3 L = none := e3.nw L (by rw [hl]; exact fun z => by cases z) gl
  cases hf : f k with
  | true =>
    show bE X scope elt _ H3 _
    refine fun s0 H0 C cl fp => he hf s0 H0 C cl fp F G3 _ H3 ((A'.ext e3).in2 hij hr hr2 (Dt.mono e3.g _ _ kd) (Dt.mono e3.g _ _ kd2)) _ fun y G4 H4 e4 ky => ?_
    have e5 := (e.trans e3).trans e4
    have hl4 : H4 L = some (.lst vs) := e4.h _ _ (e3.h _ _ hl)
    have gl4 : G4 L = none := e4.nw L (by rw [e3.h _ _ hl]; exact fun z => by cases z) gl3
    refine ⟨vs, hl4, ?_, G4, vs ++ [y], ⟨e5.g, fun a o q => ?_, fun a o q => ?_, e5.nw⟩, gl4, upd_same, ?_⟩
    · rw [da.len]
      exact Nat.lt_of_le_of_lt (madeD_len f g k) hk
    · rw [upd_ne (ne_of_none q gl4)]; exact e5.gh a o q
    · rw [upd_ne (ne_of_none q hL)]; exact e5.h a o q
    · rw [madeD_yes hf]
      exact (DtAll.mono (e3.g.trans e4.g) _ _ da).app (.cons ky .nil)
  | false =>
    show Cw X.K G1 H1 f g L (k + 1) H3
    exact ⟨G3, vs, e.trans e3, gl3, e3.h _ _ hl, by rw [madeD_no hf]; exact DtAll.mono e3.g _ _ da⟩
/-- [elt for x, y in xs if ..], xs a list of pairs -/
theorem po_lcP {α : Type} [Inhabited α] {f1 f2 : α → D} {as : List α} {scope : Scope} {kt : Nat} (i j : Nat) {s1 s2 : Slot} (nd : X.N.Nodup) (f : α → Bool) (g : α → D) (ha : PP X r a (.lst (as.map fun w => .tup [f1 w, f2 w]))) (hn : as.length ≤ sizeLine)
    (ht : ∀ w, w ∈ as → ∀ s H C cl fp, FQ (Blk X scope s H C cl fp) ((r.set i (.d (f1 w))).set j (.d (f2 w))) ifs (f w)) (he : ∀ w, w ∈ as → f w = true → ∀ s H C cl fp, PP (Blk X scope s H C cl fp) ((r.set i (.d (f1 w))).set j (.d (f2 w))) elt (g w))
    (hij : i ≠ j := by decide) (ok : BlkOk X.N X.env.scope scope [(x, i), (y, j)] := by exact blkOk_by (by kernel_rfl))
    (hb : ∀ (s : Shared) (H : Hp) (C : Addr) (cl : List (Str × Addr)) (fp : List Addr), PG (Blk X scope s H C cl fp) (.Tuple [.Name x px, .Name y py] kt tpos) (gTwo X.K i j) := by
      first
      | exact fun _ _ _ _ _ => pg_tup rfl (pgs_cons (pg_name (by assumption) rfl (Or.inl rfl)) (pgs_cons (pg_name (by assumption) rfl (Or.inl rfl)) pgs_nil))
      | exact fun _ _ _ _ _ => pg_tup rfl (pgs_cons (pg_name (by assumption) rfl (Or.inl rfl)) (pgs_cons (pg_name (by assumption) rfl (Or.inr rfl)) pgs_nil))
      | exact fun _ _ _ _ _ => pg_tup rfl (pgs_cons (pg_name (by assumption) rfl (Or.inr rfl)) (pgs_cons (pg_name (by assumption) rfl (Or.inl rfl)) pgs_nil))
      | exact fun _ _ _ _ _ => pg_tup rfl (pgs_cons (pg_name (by assumption) rfl (Or.inr rfl)) (pgs_cons (pg_name (by assumption) rfl (Or.inr rfl)) pgs_nil)))
    (hr : r[i]? = some s1 := by rfl) (hr2 : r[j]? = some s2 := by rfl) (hc : X.calm = true := by rfl) (hfs : ∀ x, foldedSetIterable a X.env x = pure x := by intro _; rfl) :
    PO X r (.ListComp elt [⟨.Tuple [.Name x px, .Name y py] kt tpos, a, ifs, 0⟩] scope pos) ((as.filter f).map g) := fun F G t H A Q q => by
  refine oE (pe_lc (own := [(x, i), (y, j)]) (g := gTwo X.K i j) (tt := bTs X scope ifs) (te := bE X scope elt) hc nd (pi_list cE) ok hb bts_of be_of hfs) (ha F G t H A _ fun v G1 H1 e1 k1 => ?_)
  cases k1 with
  | @lst l vs _ h1 h2 =>
    have A1 := A.ext e1
    have hS := A1.gh _ _ h1
    refine ⟨l, rfl, ⟨vs, SqL.of hS⟩, fun L hL => lc_list (xs := vs) (Cw X.K G1 H1 (fun k => f (as.getD k default)) (fun k => g (as.getD k default)) L) (cw_start A1.gh hL) (fun k H' _ c => by obtain ⟨_, _, e, _⟩ := c; exact SqL.of (e.h _ _ hS)) (fun k w H' hk c => ?_) fun H' c => cw_end e1 hL c fun p us G' H' ee n1 n2 n3 n4 => q p us G' H' ee n1 n2 n3 ?_⟩
    · obtain ⟨d, hd, kd⟩ := h2.get' hk
      obtain ⟨z, hz, rfl⟩ := lists_get hd
      have hlt : k < as.length := (List.getElem?_eq_some_iff.mp hz).1
      cases kd with
      | @tup T us _ g1 g2 =>
        cases g2 with
        | @cons u1 us _ _ k1 g2 =>
          cases g2 with
          | @cons u2 us _ _ k2 g2 =>
            cases g2
            refine cw_turnP (d1 := f1 z) (d2 := f2 z) A1 hij hr hr2 hL c (A1.gh _ _ g1) (by omega) k1 k2 ?_ ?_
            · rw [getD_at hz]
              exact ht z (List.mem_of_getElem? hz)
            · rw [getD_at hz]
              exact he z (List.mem_of_getElem? hz)
    · have el : vs.length = as.length := by rw [h2.len, List.length_map]
      rw [el, madeD_filter as default f g] at n4
      exact n4
end
end DL

/-! Part 37: a def that takes a list over and hands back a list of lists, all ours. -/
namespace DL
open PySem PySem.Spec PyProof.Rows L2
abbrev CtT := List D → List D → Slot → Prop
def spT (K : PySem.W.Frag) (C : CtT) : Sp := fun vs H Q _ => ∃ G a us ws xs ds s, vs = .ref a :: ws ∧ H a = some (.lst us) ∧ G a = none ∧ Same G H ∧ DtAll K G us xs ∧ DtAll K G ws ds ∧ C xs ds s ∧ ∀ v H', Ret K ⟨[], G, cut H [a]⟩ s v H' → Q v H'
structure HasT (P : Program) (w : World) (K : PySem.W.Frag) (mg : Str → Option Value) (base : Heap) (k : Nat) (x : Str) (C : CtT) : Prop where
  ex : ∃ f fd ps, FnOk P w K mg base CX0 k f fd ps (spT K C) ∧ mg x = some (.ref f) ∧ PySem.W.keepIn K (.ref f) = true ∧ Binds K fd ps []
section
variable {P : Program} {w : World} {K : PySem.W.Frag} {mg : Str → Option Value} {base : Heap}
theorem HasT.mono {j k : Nat} {x : Str} {C : CtT} (h : HasT P w K mg base j x C) (l : j ≤ k) : HasT P w K mg base k x C := by
  obtain ⟨f, fd, ps, F, r⟩ := h
  exact ⟨f, fd, ps, F.mono l, r⟩
theorem has_defT {x : Str} {st : Stmt} {ps N : List Str} {k : Nat} {C : CtT} (T : Df K mg x st ps) (S : FnScope N ps (defScope st)) (hl : ∀ xs ds s, C xs ds s → ds.length + 1 = ps.length)
    (hb : ∀ xs ds s, C xs ds s → ∀ f cdv A outer s0 H E, Room k (A.deeper (envOfC x (defScope st) s0.heap.objs.size f cdv)) →
      HS (cx0 P w K mg base N x (defScope st) f cdv A outer s0 H E) (.o xs :: (ds.map Slot.d ++ List.replicate (N.length - (ds.length + 1)) Slot.un)) (defBody st) (fun _ => s = .d .non) (fun s' _ => s' = s)) : HasT P w K mg base (k + 1) x C := by
  obtain ⟨f, fd, Fn, hm, b⟩ := T
  refine ⟨f, fd, ps, Fn.ok S (fun vs H Q E h => ?_) fun cdv A outer s H vs Q E hr h => ?_, hm, Fn.kp, b⟩
  · obtain ⟨G, a, us, ws, xs, ds, s, rfl, _, _, _, _, da, c, _⟩ := h
    rw [List.length_cons, da.len]
    exact hl xs ds s c
  · obtain ⟨G, a, us, ws, xs, ds, sl, rfl, ha, ga, gh, dx, da, c, q⟩ := h
    refine ⟨_, cSs, hb xs ds sl c f cdv A outer s H E hr ⟨[], G, cut H [a]⟩ G (L2.start N (.ref a :: ws)) H rfl ?_ _ (fun r' G' t' H' e A' => ?_) fun s' r' v t' G' H' e A' => ?_⟩
    · refine ⟨⟨Same.refl G, gh, fun a o q _ => (cut_some q).2, fun _ _ q => q, fun _ z => by cases z⟩, [a], ?_, by simp, fun b hb => ?_⟩
      · have e : L2.start N (.ref a :: ws) = some (V.ref a) :: (ws.map some ++ List.replicate (N.length - (ds.length + 1)) none) := by
          unfold L2.start
          rw [List.map_cons, List.length_cons, da.len]; rfl
        rw [e]
        have z := Slots.cons (K := K) (G := G) (H := H) (s := .o xs) (v := some (.ref a)) (fp := [a]) ⟨_, rfl, a, us, rfl, rfl, ha, dx⟩ (slots_start (N.length - (ds.length + 1)) da)
        rw [List.append_nil] at z
        exact z
      · have : b = a := by simpa using hb
        subst this
        exact ⟨ga, .inl (cut_in (by simp))⟩
    · subst e
      exact q .non H' ⟨r', t', G', A'.front .non⟩
    · subst e
      exact q v H' ⟨r', t', G', A'⟩
end
/-- a new list with lists of ours in it -/
def PLs (X : Cx) (r : List Slot) (e : Expr) (fs : List (Str × Fld)) : Prop := ∀ (F : Fr) (G : Hp) (t : L2.St) (H : Hp), At X.K F G r t H → ∀ Q : VK,
  (∀ p vs fps G' H', Ext G H G' H' → H' p = some (.lst (vs.map Prod.snd)) → FldsOk X.K G' H' fs vs fps → (p :: fps).Nodup → (∀ a, a ∈ p :: fps → H a = none ∧ G' a = none) → Q (.ref p) H') → tE X e t H Q
theorem FldsOk.app {K : PySem.W.Frag} {G H : Hp} {fs fs2 : List (Str × Fld)} {vs vs2 : List (Str × V)} {fp fp2 : List Addr} (h : FldsOk K G H fs vs fp) (h2 : FldsOk K G H fs2 vs2 fp2) : FldsOk K G H (fs ++ fs2) (vs ++ vs2) (fp ++ fp2) := by
  induction h with
  | nil => exact h2
  | cons h1 _ ih => rw [List.cons_append, List.cons_append, List.append_assoc]; exact .cons h1 ih
section
variable {X : Cx} {r : List Slot} {e c e2 : Expr} {es : List Expr} {pos p px py apos p1 p2 : Pos} {d : D} {ds xs : List D} {q : List Addr} {fs fs2 : List (Str × Fld)} {x y : Str} {k : Nat} {C : CtT} {rest body : List Stmt} {N M : List Slot → Prop} {R : Slot → List Slot → Prop}
/-- f(e, ..), e a new list handed over -/
theorem pls_callT (h : HasT X.prog X.w X.K X.mg X.base k x C) (hr : Room k X.A) (he0 : PO X r e xs) (ha : AQ X r es ds) (hc : C xs ds (.ls [] fs)) (hg : Gl X x := by rfl) (hdb : (x == ("__debug__" : Str)) = false := by decide)
    (he : starEach (e :: es) X.env = (false, eval e X.env) :: starEach es X.env := by rfl) (hpl : (backTo pos (starEach es X.env)).any (·.1) = false := by rfl) : PLs X r (.Call (.Name x p) (e :: es) [] pos) fs := fun F G t H A Q q => by
  obtain ⟨f, fd, ps, Fo, hm, kp, b⟩ := h
  refine oE (pe_call Fo hr hg hm kp b .nil pass0 (pa_cons cE cA he) hdb he hpl) (he0 F G t H A _ fun a us G1 H1 e1 n1 g1 h1 d1 => ha F G1 t H1 (A.ext e1) _ fun ws G2 H2 e2 d2 => ?_)
  have h2 : H2 a = some (.lst us) := e2.h _ _ h1
  have g2 : G2 a = none := e2.nw a (by rw [h1]; exact fun z => by cases z) g1
  have e12 := e1.trans e2
  show spT X.K C ((V.ref a :: ws) ++ []) H2 Q E0
  rw [List.append_nil]
  refine ⟨G2, a, us, ws, xs, ds, _, rfl, h2, g2, e2.gh, DtAll.mono e2.g _ _ d1, d2, hc, fun v H' ⟨r', t', G', A'⟩ => ?_⟩
  obtain ⟨o, fp, sl, nd, fr⟩ := A'
  cases sl with
  | cons s1 _ =>
    obtain ⟨pL, vs, fps, ev, rfl, k1, k2, _⟩ := s1
    cases ev
    have out : ∀ b, H b ≠ none → b ∉ [a] := fun b hb hm => hb (by rw [List.mem_singleton.mp hm]; exact n1)
    refine q pL vs fps G' H' ⟨e12.g.trans o.g, o.gh, fun b u z => ?_, fun b hb hg => ?_⟩ k1 k2 (List.nodup_append.mp nd).1 fun b hb => ?_
    · exact o.h b u (by show cut _ _ b = _; rw [cut_out (out b (by rw [z]; exact fun w => by cases w))]; exact e12.h b u z) (by simp)
    · exact o.nw b (by show cut _ _ b ≠ _; rw [cut_out (out b hb)]; exact some_of e12.h hb) (e12.nw b hb hg)
    · have z := fr b (List.mem_append_left _ hb)
      refine ⟨?_, z.1⟩
      rcases z.2 with w | w
      · rcases cut_none w with w | w
        · rw [List.mem_singleton.mp w]; exact n1
        · exact e12.h.free w
      · cases w
/-- xs.extend(e), e such a list -/
theorem hs_extLs (i : Nat) (he : PLs X r e fs2) (hz : fs.length + fs2.length ≤ sizeLine) (k : HS X (r.set i (.ls q (fs ++ fs2))) rest N R) (hr : r[i]? = some (.ls q fs) := by rfl) (hN : X.N[i]? = some x := by rfl) (hv : Vis X.env.scope x := by first | exact Or.inl rfl | exact Or.inr (Or.inl rfl) | exact Or.inr (Or.inr rfl)) (hd : (x == ("__debug__" : Str)) = false := by decide)
    (hcd : (x == ("__classdict__" : Str)) = false := by decide) (hsw : swapsWith (.Call (.Attribute (.Name x px) "extend" apos) [e] [] p) none pos.line X.env = pure false := by rfl)
    (hpe : ∀ {to : TE} {t : TA}, PE X (.Name x px) to → PA X [e] t → PE X (.Call (.Attribute (.Name x px) "extend" apos) [e] [] p) (tBM X.K "list" rExtend to t) := by exact fun ho ha => pe_bm PySem.F.plainAttrs_list PySem.F.slot_list_extend PySem.F.type_list_extend mt_extend ho ha)
    (hs : starEach [e] X.env = (false, eval e X.env) :: starEach [] X.env := by rfl) : HS X r (.Expr (.Call (.Attribute (.Name x px) "extend" apos) [e] [] p) pos :: rest) N R :=
  hs_cons (M := fun r' => r' = r.set i (.ls q (fs ++ fs2))) (fun F G t H nl A D nn q0 => by
    obtain ⟨v, fp0, h1, so, nd, gn, kk⟩ := A.rep hr
    have has := so.has
    obtain ⟨l, vs, fps, rfl, rfl, hl, fk, hpre⟩ := so
    refine oS (ps_expr (hpe (pe_var hN hv hd hcd) (pa_cons cE pa_nil hs)) hsw) ⟨_, h1, .inl ⟨rfl, _, SqL.of hl⟩, he F G t H A _ fun pL ws fpw G' H' ee hL fw ndw nw => ?_⟩
    refine ⟨l, pL, _, _, rfl, rfl, ee.h _ _ hl, hL, by rw [List.length_map, List.length_map, fk.vlen, fw.vlen]; exact hz, ?_⟩
    have ml : l ∈ l :: fps := by simp
    have gl : G' l = none := ee.nw l (has l ml) (gn l ml)
    have ne : ∀ a, a ∈ pL :: fpw → a ∉ l :: fps := fun a ha hb => has a hb (nw a ha).1
    have nd2 := List.nodup_cons.mp nd
    have ndw2 := List.nodup_cons.mp ndw
    have hset : t.set i (some (.ref l)) = t := by
      obtain ⟨hlt, he⟩ := List.getElem?_eq_some_iff.mp h1
      rw [← he]; exact List.set_getElem_self hlt
    have z := kk G' (L2.upd H' l (.lst (vs.map Prod.snd ++ ws.map Prod.snd))) (.ls q (fs ++ fs2)) (some (.ref l)) (l :: (fps ++ fpw)) ((Ok.of_ext ee has).upd ml gl)
      ⟨l, vs ++ ws, fps ++ fpw, rfl, rfl, by rw [upd_same, List.map_append], (fk.frame ee.g fun a o ha w => by
          have n : a ≠ l := fun c => nd2.1 (c ▸ ha)
          rw [upd_ne n]; exact ee.h a o w).app (fw.frame (Same.refl _) fun a o ha w => by
          have n : a ≠ l := fun c => ne a (List.mem_cons_of_mem _ ha) (by rw [c]; exact ml)
          rw [upd_ne n]; exact w), by
        obtain ⟨z, hz⟩ := hpre
        exact ⟨z ++ fpw, by rw [← List.append_assoc, hz]; rfl⟩⟩ (by
        rw [List.nodup_cons, List.nodup_append]
        refine ⟨fun w => ?_, nd2.2, ndw2.2, fun a ha b hb c => ne b (List.mem_cons_of_mem _ hb) (by rw [← c]; exact List.mem_cons_of_mem _ ha)⟩
        rcases List.mem_append.mp w with w | w
        · exact nd2.1 w
        · exact ne l (List.mem_cons_of_mem _ w) ml) (fun a ha => by
        rcases List.mem_cons.mp ha with w | w
        · rw [w]; exact ⟨gl, .inr ml⟩
        · rcases List.mem_append.mp w with w | w
          · have m2 := List.mem_cons_of_mem l w
            exact ⟨ee.nw a (has a m2) (gn a m2), .inr m2⟩
          · have m2 := nw a (List.mem_cons_of_mem _ w)
            exact ⟨m2.2, .inl m2.1⟩)
    rw [hset] at z
    exact nn _ G' t _ rfl z) fun _ e => e ▸ k
/-- a list of ours without items, as such a list -/
theorem hs_o2ls (i : Nat) (k : HS X (r.set i (.ls [] [])) rest N R) (hr : r[i]? = some (.o []) := by rfl) : HS X r rest N R := fun F G t H nl A D nn q0 => by
  obtain ⟨v, fp0, h1, so, nd, gn, kk⟩ := A.rep hr
  have has := so.has
  obtain ⟨v, rfl, p, vs, rfl, rfl, hp, da⟩ := so
  cases da
  have z := kk G H (.ls [] []) (some (.ref p)) [p] (Ok.of_ext (Ext.refl A.gh) has) ⟨p, [], [], rfl, rfl, hp, .nil, List.nil_prefix⟩ nd fun a ha => ⟨gn a ha, .inr ha⟩
  have hset : t.set i (some (.ref p)) = t := by
    obtain ⟨hlt, he⟩ := List.getElem?_eq_some_iff.mp h1
    rw [← he]; exact List.set_getElem_self hlt
  rw [hset] at z
  exact k F G t H nl z D nn q0
/-- x = [y] if c else e2, y a list of ours, c true -/
theorem hs_lb1 (i j : Nat) {s : Slot} (nd : X.N.Nodup) (hc : TQ X r c true) (k : ∀ pL a, HS X ((r.set j (.d (.val (.ref a)))).set i (.ls [pL, a] [("", .o xs)])) rest N R) (hij : i ≠ j := by decide) (hr : r[i]? = some s := by rfl) (hj : r[j]? = some (.o xs) := by rfl) (hN : X.N[i]? = some x := by rfl) (hx : Loc X.env.scope x := by first | exact Or.inl rfl | exact Or.inr rfl)
    (hf : X.fn x = true ∨ X.env.scope.names.lookup x = some .local := by first | exact .inl rfl | exact .inr rfl) (hNj : X.N[j]? = some y := by rfl) (hv : Vis X.env.scope y := by first | exact Or.inl rfl | exact Or.inr (Or.inl rfl) | exact Or.inr (Or.inr rfl)) (hd : (y == ("__debug__" : Str)) = false := by decide) (hcd : (y == ("__classdict__" : Str)) = false := by decide)
    (hs : swapsWith (.IfExp c (.List [.Name y py] p1) e2 p2) (some (.Name x px)) pos.line X.env = pure false := by rfl) (hst : starEach [.Name y py] X.env = (false, eval (.Name y py) X.env) :: starEach [] X.env := by rfl) :
    HS X r (.Assign [.Name x px] (.IfExp c (.List [.Name y py] p1) e2 p2) pos :: rest) N R :=
  hs_cons (M := fun r' => ∃ pL a, r' = (r.set j (.d (.val (.ref a)))).set i (.ls [pL, a] [("", .o xs)])) (fun F G t H nl A D nn q0 => by
    refine oS (ps_set nd hN hx (pe_ifExp cT (pe_lst (pa_cons (pe_var hNj hv hd hcd) pa_nil hst)) cE) hs hf) (hc F G t H A _ fun G1 H1 e1 => ?_)
    rw [if_pos rfl]
    obtain ⟨o, fp, sl, ndp, fr⟩ := A.ext e1
    obtain ⟨v, f1, f0, f2, a1, a2, a3, a4⟩ := sl.split hj
    obtain ⟨v, rfl, a, us, rfl, rfl, ha, da⟩ := a3
    have sl1 := a4 G1 H1 (.d (.val (.ref a))) (some (.ref a)) [] (Same.refl G1) (fun _ _ _ w => w) ⟨_, rfl, rfl, .val _⟩
    have hset : t.set j (some (.ref a)) = t := by
      obtain ⟨hlt, he⟩ := List.getElem?_eq_some_iff.mp a1
      rw [← he]; exact List.set_getElem_self hlt
    rw [hset] at sl1
    have nd1 : (f1 ++ ([] ++ f2)).Nodup ∧ a ∉ f1 ++ ([] ++ f2) := by
      rw [a2] at ndp
      have := (List.perm_append_comm_assoc f1 [a] f2).nodup_iff.mp ndp
      rw [List.singleton_append, List.nodup_cons] at this
      exact ⟨this.2, this.1⟩
    have ma : a ∈ fp := by rw [a2]; simp
    have sub : ∀ b, b ∈ f1 ++ ([] ++ f2) → b ∈ fp := fun b hb => by
      rw [a2]
      rcases List.mem_append.mp hb with w | w
      · exact List.mem_append_left _ w
      · exact List.mem_append_right _ (List.mem_append_right _ (by simpa using w))
    have A1 : At X.K F G1 (r.set j (.d (.val (.ref a)))) t H1 := ⟨o, _, sl1, nd1.1, fun b hb => fr b (sub b hb)⟩
    have fa : F.H a = none := (fr a ma).2.elim id fun z => by rw [nl] at z; cases z
    refine ⟨_, a1, by rw [sizeLine_eq]; show 1 ≤ _; decide, fun pL hp => ?_⟩
    have npa : a ≠ pL := fun c => by rw [c, hp] at ha; cases ha
    have eL : Ext G1 H1 G1 (upd H1 pL (.lst [.ref a])) := Ext.newO A1.gh hp
    refine nn _ G1 _ _ ⟨pL, a, rfl⟩ ((A1.ext eL).put (s := s) (s' := .ls [pL, a] [("", .o xs)]) (v' := some (.ref pL)) (fp' := [pL, a]) (by rw [List.getElem?_set_ne hij.symm]; exact hr) ⟨pL, [("", .ref a)], [a], rfl, rfl, upd_same, ?_, List.prefix_rfl⟩ (by simpa using fun c : pL = a => npa c.symm) fun b hb => ?_)
    · have z := FldsOk.cons (n := "") (K := X.K) (G := G1) (H := upd H1 pL (.lst [.ref a])) (x := .o xs) (v := .ref a) (fp := [a]) ⟨a, us, rfl, rfl, by rw [upd_ne npa]; exact ha, da⟩ .nil
      rw [List.append_nil] at z
      exact z
    · rcases (by simpa using hb : b = pL ∨ b = a) with c | c
      · subst c
        exact ⟨A1.gh.free hp, free_F A1 hp, fun fp' sl' => not_in A1 eL hp sl'⟩
      · subst c
        refine ⟨(fr b ma).1, fa, fun fp' sl' hm => ?_⟩
        have e := At.asgO.Slots.same_fp sl' sl1 eL.h
        rw [e] at hm
        exact nd1.2 hm) fun _ ⟨pL, a, e⟩ => e ▸ k pL a
/-- return x, x such a list -/
theorem hs_retLs (i : Nat) (m : R (.ls [] fs) (r.set i .un)) (hr : r[i]? = some (.ls q fs) := by rfl) (hN : X.N[i]? = some x := by rfl) (hv : Vis X.env.scope x := by first | exact Or.inl rfl | exact Or.inr (Or.inl rfl) | exact Or.inr (Or.inr rfl)) (hd : (x == ("__debug__" : Str)) = false := by decide)
    (hcd : (x == ("__classdict__" : Str)) = false := by decide) : HS X r (.Return (some (.Name x px)) pos :: rest) N R := hs_cons (M := fun _ => False) (fun F G t H nl A D n q0 => by
  obtain ⟨o, fp, s, nd, fr⟩ := A
  obtain ⟨v, f1, f0, f2, h1, h2, h3, h4⟩ := s.split hr
  obtain ⟨p, vs, fps, rfl, rfl, k1, k2, _⟩ := h3
  have s' := h4 G H .un (some (.ref p)) [] (Same.refl G) (fun _ _ _ w => w) rfl
  subst h2
  have ep : (f1 ++ ((p :: fps) ++ f2)).Perm ((p :: fps) ++ (f1 ++ ([] ++ f2))) := by
    rw [List.nil_append]
    exact List.perm_append_comm_assoc f1 (p :: fps) f2
  have hset : t.set i (some (.ref p)) = t := by
    obtain ⟨hlt, he⟩ := List.getElem?_eq_some_iff.mp h1
    rw [← he]; exact List.set_getElem_self hlt
  rw [hset] at s'
  refine oS (ps_ret (pe_var hN hv hd hcd)) ⟨_, h1, q0 (.ls [] fs) (r.set i .un) _ t G H m ⟨o, (p :: fps) ++ (f1 ++ ([] ++ f2)), .cons ⟨p, vs, fps, rfl, rfl, k1, k2, List.nil_prefix⟩ s', ep.nodup_iff.mp nd, fun a ha => fr a (ep.mem_iff.mpr ha)⟩⟩) fun _ h => h.elim
/-- the lists in such a list -/
def lsF (ls : List (List D)) : List (Str × Fld) := ls.map fun l => ("", .o l)
theorem lsF_split {K : PySem.W.Frag} {G H : Hp} : ∀ {ls : List (List D)} {vs : List (Str × V)} {fps : List Addr}, FldsOk K G H (lsF ls) vs fps → vs.map Prod.snd = fps.map V.ref ∧ ∀ (j : Nat) (a : Addr), fps[j]? = some a → ∃ l us, ls[j]? = some l ∧ H a = some (.lst us) ∧ DtAll K G us l := by
  intro ls
  induction ls with
  | nil =>
    intro vs fps h
    cases h
    exact ⟨rfl, fun j a e => by simp at e⟩
  | cons l ls ih =>
    intro vs fps h
    cases h with
    | @cons n x v fp fps' fs vs' h1 h2 =>
      obtain ⟨p, us, rfl, rfl, k1, k2⟩ := h1
      obtain ⟨a1, a2⟩ := ih h2
      refine ⟨by rw [List.map_cons, a1]; rfl, fun j a e => ?_⟩
      cases j with
      | zero =>
        have : p = a := by simpa using e
        subst this
        exact ⟨l, us, rfl, k1, k2⟩
      | succ j => exact a2 j a (by simpa using e)
/-- for x in e, e such a list, x ours -/
theorem s1_forLs {fpos : Pos} {ls : List (List D)} {it : Expr} (i : Nat) (nd : X.N.Nodup) (Pk : Nat → Prop) (he : PLs X r it (lsF ls)) (hsc : ∀ l, l ∈ ls → ∀ d, d ∈ l → Sc d) (p0 : Pk 0) (hb : ∀ (k : Nat) (l : List D), Pk k → ls[k]? = some l → HS X (r.set i (.o l)) body (fun r' => Le r' r ∧ Pk (k + 1)) R) (m : Pk ls.length → M r)
    (hr : r[i]? = some .un := by rfl) (hN : X.N[i]? = some x := by rfl) (hx : Loc X.env.scope x := by first | exact Or.inl rfl | exact Or.inr rfl) (hf : X.fn x = true ∨ X.env.scope.names.lookup x = some .local := by first | exact .inl rfl | exact .inr rfl)
    (hp : PassesOwn (model X.prog X.w) X.A X.env X.xe := by exact PassesOwn.never) (hc : X.calm = true := by rfl) (hfs : ∀ x, foldedSetIterable it X.env x = pure x := by intro _; rfl) : S1 X r (.For (.Name x px) it body [] fpos) M R := fun F G t H nl A D nx q0 => by
  refine oS (ps_for hp hc (pi_list cE) (pg_name nd hN hx hf) cSs hfs) (he F G t H A _ fun pL vs fps G1 H1 e1 hL fk ndL nw => ?_)
  obtain ⟨ev, at0⟩ := lsF_split fk
  have lenL : fps.length = ls.length := by
    have := congrArg List.length ev
    rw [List.length_map, List.length_map, fk.vlen] at this
    unfold lsF at this
    rw [List.length_map] at this
    exact this.symm
  rw [ev] at hL
  obtain ⟨npL, ndF⟩ := List.nodup_cons.mp ndL
  -- what stays: the list, and the lists that are still to come
  let Inv (k : Nat) (t' : L2.St) (H' : Hp) : Prop := Pk k ∧ ∃ G', At X.K F G' r t' H' ∧ H' pL = some (.lst (fps.map V.ref)) ∧ ∀ (j : Nat) (a : Addr), k ≤ j → fps[j]? = some a → G' a = none ∧ F.H a = none ∧ (∃ l us, ls[j]? = some l ∧ H' a = some (.lst us) ∧ DtAll X.K G' us l) ∧ ∀ fp, Slots X.K G' H' r t' fp → a ∉ fp ∧ pL ∉ fp
  refine ⟨pL, rfl, ⟨_, SqL.of hL⟩, for_list (K := X.K) (a := pL) (xs := fps.map V.ref) Inv ?_ (fun k t' H' _ h => SqL.of h.2.choose_spec.2.1) ?_ ?_⟩
  · refine ⟨p0, G1, A.ext e1, hL, fun j a _ ha => ?_⟩
    have mem : a ∈ pL :: fps := List.mem_cons_of_mem _ (List.mem_of_getElem? ha)
    obtain ⟨l, us, x1, x2, x3⟩ := at0 j a ha
    exact ⟨(nw a mem).2, free_F A (nw a mem).1, ⟨l, us, x1, x2, x3⟩, fun fp sl => ⟨not_in A e1 (nw a mem).1 sl, not_in A e1 (nw pL (by simp)).1 sl⟩⟩
  · rintro k w t' H' hk ⟨pk, G', A', hL', rem⟩
    rw [List.getElem?_map] at hk
    cases hfk : fps[k]? with
    | none => rw [hfk] at hk; cases hk
    | some a =>
      rw [hfk] at hk
      cases hk
      obtain ⟨ga, fa, ⟨l, us, hl, hau, da⟩, out⟩ := rem k a (Nat.le_refl _) hfk
      have A2 : At X.K F G' (r.set i (.o l)) (t'.set i (some (.ref a))) H' := A'.put hr (s' := .o l) (v' := some (.ref a)) (fp' := [a]) ⟨_, rfl, a, us, rfl, rfl, hau, da⟩ (by simp) fun b hb => by
        have : b = a := by simpa using hb
        subst this
        exact ⟨ga, fa, fun fp sl => (out fp sl).1⟩
      obtain ⟨_, fp2, sl2, nd2, fr2⟩ := id A2
      obtain ⟨_, fpA, slA, _, _⟩ := id A'
      -- the footprint behind the move
      have inA : ∀ b, b ∈ fp2 → b ∈ fpA ∨ b = a := fun b hb => by
        obtain ⟨v, g1, g0, g2, h1, h2, h3, h4⟩ := slA.split hr
        have s2 := h4 G' H' (.o l) (some (.ref a)) [a] (Same.refl _) (fun _ _ _ w => w) ⟨_, rfl, a, us, rfl, rfl, hau, da⟩
        rw [sl2.uniq s2] at hb
        rw [h2]
        rcases List.mem_append.mp hb with w | w
        · exact .inl (List.mem_append_left _ w)
        · rcases List.mem_append.mp w with w | w
          · exact .inr (by simpa using w)
          · exact .inl (List.mem_append_right _ (List.mem_append_right _ w))
      have npF2 : pL ∉ fp2 := fun hb => by
        rcases inA pL hb with w | w
        · exact (out fpA slA).2 w
        · exact npL (w ▸ List.mem_of_getElem? hfk)
      have nF2 : ∀ (j : Nat) (b : Addr), k + 1 ≤ j → fps[j]? = some b → b ∉ fp2 := fun j b hj hb hm => by
        rcases inA b hm with w | w
        · exact ((rem j b (by omega) hb).2.2.2 fpA slA).1 w
        · subst w
          obtain ⟨q1, q2⟩ := List.getElem?_eq_some_iff.mp hb
          obtain ⟨q3, q4⟩ := List.getElem?_eq_some_iff.mp hfk
          have := List.pairwise_iff_getElem.mp ndF k j q3 q1 (by omega)
          exact this (by rw [q4, q2])
      refine hb k l pk hl ⟨[], G', cut H' fp2⟩ G' _ H' rfl (A2.base0 sl2) { D with nx := _, ct := _, bk := _ } (fun r3 G3 t3 H3 ⟨lr, pk1⟩ A3 => ?_) (fun s r3 v3 t3 G3 H3 hR A3 => q0 s r3 v3 t3 G3 H3 hR (A2.through nl sl2 A3))
      obtain ⟨G4, s4, A4⟩ := A3.le lr rfl
      have hpL3 : H3 pL = some (.lst (fps.map V.ref)) := A3.ok.h pL _ (by show cut _ _ pL = _; rw [cut_out npF2]; exact hL') (by simp)
      refine ⟨pk1, G4, A2.through nl sl2 A4, hpL3, fun j b hj hb => ?_⟩
      obtain ⟨gb, fb, ⟨l2, us2, y1, y2, y3⟩, _⟩ := rem j b (by omega) hb
      have nb := nF2 j b hj hb
      have cb : cut H' fp2 b = some (.lst us2) := by rw [cut_out nb]; exact y2
      have cp : cut H' fp2 pL = some (.lst (fps.map V.ref)) := by rw [cut_out npF2]; exact hL'
      refine ⟨A4.ok.nw b (by show cut _ _ b ≠ _; rw [cb]; exact fun z => by cases z) gb, fb, ⟨l2, us2, y1, A4.ok.h b _ cb (by simp), y3.scAny (hsc l2 (List.mem_of_getElem? y1))⟩, fun fp sl => ?_⟩
      obtain ⟨_, fp4, sl4, _, fr4⟩ := A4
      have e4 := sl.uniq sl4
      subst e4
      refine ⟨fun hm => ?_, fun hm => ?_⟩
      · rcases (fr4 b hm).2 with w | w
        · have w : cut H' fp2 b = none := w
          rw [cb] at w; cases w
        · cases w
      · rcases (fr4 pL hm).2 with w | w
        · have w : cut H' fp2 pL = none := w
          rw [cp] at w; cases w
        · cases w
  · rintro t' H' ⟨pk, G', A', _⟩
    rw [List.length_map, lenL] at pk
    exact nx _ G' t' H' (m pk) A'
end
section
variable {X : Cx} {r : List Slot} {a b c : Expr} {pos px py pt pt2 : Pos} {kt k2 : Nat} {x y : Str} {u1 u2 : Slot} {xs : List D} {k : Bool} {rest : List Stmt} {N : List Slot → Prop} {R : Slot → List Slot → Prop}
theorem po_if (hc : TQ X r c k) (ha : k = true → PO X r a xs) (hb : k = false → PO X r b xs) : PO X r (.IfExp c a b pos) xs := fun F G t H A Q q =>
  oE (pe_ifExp cT cE cE) (hc F G t H A _ fun G' H' e => by
    cases k with
    | true => exact ha rfl F G' t H' (A.ext e) Q fun p vs G2 H2 e2 n g z d => q p vs G2 H2 (e.trans e2) (e.h.free n) g z d
    | false => exact hb rfl F G' t H' (A.ext e) Q fun p vs G2 H2 e2 n g z d => q p vs G2 H2 (e.trans e2) (e.h.free n) g z d)
/-- x, y = e1, e2 over a tuple -/
theorem hs_parT2 (i j : Nat) (nd : X.N.Nodup) (ha : AS X r [a, b] [u1, u2]) (k : HS X ((r.set i u1).set j u2) rest N R) (hr : i < r.length := by exact Nat.le_of_ble_eq_true rfl) (hr2 : j < r.length := by exact Nat.le_of_ble_eq_true rfl) (hN : X.N[i]? = some x := by rfl) (hN2 : X.N[j]? = some y := by rfl)
    (hx : Loc X.env.scope x := by first | exact Or.inl rfl | exact Or.inr rfl) (hx2 : Loc X.env.scope y := by first | exact Or.inl rfl | exact Or.inr rfl)
    (hf : X.fn x = true ∨ X.env.scope.names.lookup x = some .local := by first | exact .inl rfl | exact .inr rfl) (hf2 : X.fn y = true ∨ X.env.scope.names.lookup y = some .local := by first | exact .inl rfl | exact .inr rfl)
    (hc : X.calm = true := by rfl) (hs : swapsWithSole [.Tuple [.Name x px, .Name y py] kt pt] (.Tuple [a, b] k2 pt2) pos.line X.env = pure false := by rfl) (hw : swappedStores [.Tuple [.Name x px, .Name y py] kt pt] (.Tuple [a, b] k2 pt2) X.env = pure none := by rfl)
    (h1 : (assignEach [.Tuple [.Name x px, .Name y py] kt pt] X.env).map (·.2) = [assign (.Tuple [.Name x px, .Name y py] kt pt) X.env] := by rfl)
    (hg1 : (assignEach [.Name x px, .Name y py] X.env).map (·.2) = assign (.Name x px) X.env :: (assignEach [.Name y py] X.env).map (·.2) := by rfl) (hg2 : (assignEach [.Name y py] X.env).map (·.2) = assign (.Name y py) X.env :: (assignEach [] X.env).map (·.2) := by rfl)
    (hn : (assignEach [.Name x px, .Name y py] X.env).length = 2 := by rfl) (hst : (assignEach [.Name x px, .Name y py] X.env).findIdx? (·.1) = none := by rfl) :
    HS X r (.Assign [.Tuple [.Name x px, .Name y py] kt pt] (.Tuple [a, b] k2 pt2) pos :: rest) N R :=
  hs_cons (M := fun r' => r' = (r.set i u1).set j u2) (fun F G t H nl A D n q => oS (ps_asg (pe_tup cA) (pg_tup hc (pgs_cons (pg_name (i := i) nd hN hx hf) (pgs_cons (pg_name (i := j) nd hN2 hx2 hf2) pgs_nil hg2) hg1) hn hst) hs hw h1) (ha F G t H A _ fun vs G' H' fp e sl nf nw => by
    match vs, sl with
    | [v1, v2], .cons (fp := f1) q1 (.cons (fp := f2) q2 .nil) =>
      have mem : ∀ p, p ∈ ([⟨i, u1, some v1, f1⟩, ⟨j, u2, some v2, f2⟩] : List Pt) → ∀ a, a ∈ p.fp → H a = none ∧ G' a = none := fun p hp a ha => nw a (by
        simp only [List.mem_cons, List.not_mem_nil, or_false] at hp
        rcases hp with rfl | rfl
        · exact List.mem_append_left _ ha
        · exact List.mem_append_right _ (List.mem_append_left _ ha))
      have A4 := At.puts [⟨i, u1, some v1, f1⟩, ⟨j, u2, some v2, f2⟩] (A.ext e) (fun fp sl p hp a ha => not_in A e (mem p hp a ha).1 sl) nf fun p hp => by
        have mp := mem p hp
        simp only [List.mem_cons, List.not_mem_nil, or_false] at hp
        rcases hp with rfl | rfl
        · exact ⟨q1, hr, fun a ha => ⟨(mp a ha).2, free_F A (mp a ha).1⟩⟩
        · exact ⟨q2, hr2, fun a ha => ⟨(mp a ha).2, free_F A (mp a ha).1⟩⟩
      refine ⟨by show 2 ≤ sizeLine; rw [sizeLine_eq]; omega, fun p0 hp0 => ?_⟩
      exact ⟨p0, [v1, v2], rfl, SqT.of upd_same, rfl, v1, [v2], rfl, v2, [], rfl, rfl, n _ G' _ _ rfl (A4.ext (Ext.newO A4.gh hp0))⟩)) fun _ e => e ▸ k
end
end DL

/-! Part 38: raising comparisons, raising method calls with arguments. -/
namespace DL
open PySem PySem.Spec PyProof.Rows L2
section
variable {X : Cx} {r : List Slot} {e a b : Expr} {es : List Expr} {pos apos : Pos} {ds os : List D} {C : Addr} {ns : List Str} {m : Str} {k : Nat} {Cx0 : CtX} {c : Addr}
/-- a == b, where a raises -/
theorem px_eq (h : PX X r a c) (hm : behindInMarks .Eq b = false := by first | exact nomark _ | rfl) : PX X r (.Compare a [.Eq] [b] pos) c := fun F G t H A Q W tk w => oE (pe_cmpR op_eq cE cE hm) (h F G t H A _ W tk w)
/-- o.m(e, ..) raises -/
theorem px_meth {pl : Sem Bool} (h : HasMX X.prog X.w X.K X.mg X.base k C m Cx0) (hr : Room k X.A) (ho : PB X.nox r a (.ins C ns os)) (ha : AB X.nox r (e :: es) ds) (hc : Cx0 (.ins C ns os :: ds) c) (hn : m ∉ ns := by decide)
    (hst : starEach (e :: es) X.env = (false, eval e X.env) :: starEach es X.env := by rfl) (hpl : (backTo pos (starEach es X.env)).any (·.1) = false := by rfl)
    (ht : eval (.Call (.Attribute a m apos) (e :: es) [] pos) X.env = (do
      let ov ← eval a X.env
      standAt apos.atName
      let (f, first) ← holding [ov] (getMethod ov m pl)
      callWith pos f first (backTo pos (starEach (e :: es) X.env)) (backToKw pos (keywordEach [] X.env))) := by rfl) : PX X r (.Call (.Attribute a m apos) (e :: es) [] pos) c := fun F G t H A Q W tk w => by
  obtain ⟨f, fd, ps, cl, mt, Fo, b⟩ := h
  have a1 := nE (ho F G t H A (fun v H1 => ∃ p dx fs, v = .ref p ∧ H1 p = some (.ins C dx fs) ∧ fs.lookup m = none ∧ tAr X (e :: es) t H1 fun vs H2 => spX X.K Cx0 (v :: vs) H2 Q fun cls d H' => W cls d t H') fun v G1 H1 e1 k1 => by
    cases k1 with
    | ins h1 h2 h3 =>
      exact ⟨_, _, _, rfl, h1, look_none hn, nA (ha F G1 t H1 (A.ext e1) _ fun vs G2 H2 e2 k2 => ⟨H2, .ins C ns os :: ds, c, Same.refl H2, .cons (.ins (e2.h _ _ h1) h2 (DtAll.mono e2.h _ _ h3)) k2, hc, fun G' H' e3 => w G2 H' ⟨(e1.trans e2).g, (e1.trans e2).gh.trans e3.h, (e1.trans e2).h.trans e3.h, (e1.trans e2).nw⟩⟩)⟩)
  unfold tE
  intro pins s I
  refine PySem.W.methodCall_KW (pl := pl) (thn (cE.run pins s t H _ I a1) fun u s1 ⟨x, H1, I1, rx, p, dx, fs, ex, h1, hl, q⟩ => ?_) ht
  subst ex
  obtain rfl : u = Value.ref p := rx
  refine getmeth_ok I1 h1 cl mt hl ?_
  refine PySem.W.callWith_K (first := [.ref p]) (h₀ := X.base) I.ok.mod.kin mt.kp (thn (cA.run pos pins s1 t H1 _ I1 q) fun us s2 ⟨vs, H2, I2, r2, q2⟩ => ⟨I2.kIn, ?_⟩) hst hpl
  have r3 : Vals (V.ref p :: vs) (Value.ref p :: us) := .cons rfl r2
  have hln : ((Value.ref p :: us) ++ ([] : List Value)).length = ps.length := by rw [List.append_nil, ← r3.length]; exact Fo.len _ _ _ _ q2
  have bb := b s2 (Value.ref p :: us) I2.kIn hln
  rw [List.append_nil] at bb
  refine wpAny_call (codeAny_mono (Fo.run X.A X.stack s2 H2 ⟨Value.ref p :: us, []⟩ (Value.ref p :: us) (V.ref p :: vs) Q _ hr I2.env0 bb r3 q2) fun r s' hq => ?_)
  cases r with
  | error e => exact tk e s' (XE.of_call I2 (fun _ _ _ h => h) hq)
  | ok fl =>
    cases fl with
    | ret u => exact I2.after hq
    | next => exact False.elim hq
    | brk => exact False.elim hq
    | cont => exact False.elim hq
end
end DL

/-! Part 39: walks over lists and tuples while an exception is handled. -/
namespace HotX
open PySem PySem.Spec PyProof.Rows
section
variable {prog : Program} {w : World} {A : Around} {E : Value → Shared → Prop} {s : Shared}
theorem HotAt.keep {x1 : Addr} {h h' : Heap} (a : HotAt A x1 h) (k : ∀ o, h.get? x1 = some o → h'.get? x1 = some o) : HotAt A x1 h' := by
  obtain ⟨hh, o, vs, e, d, c⟩ := a
  exact ⟨hh, o, vs, k o e, d, c⟩
theorem HotAt.lt {x1 : Addr} {h : Heap} (a : HotAt A x1 h) : x1 < h.objs.size := by
  obtain ⟨_, o, _, e, _⟩ := a
  exact Heap.lt_size e
/-- the error that ends a walk, raised while x1 is handled; so far only the iterator has changed -/
theorem stop_hot {it x1 : Addr} {h0 : Heap} {α : Type} {Q : α → Shared → Prop} (hot : HotAt A x1 h0) (hx : x1 ≠ it) (hs : Heap.SameBut it h0 s.heap)
    (hE : ∀ h' e, Heap.ExtBut it h0 h' → (∃ o, h'.get? e = some o ∧ o.cls = .type "StopIteration") → E (.ref e) { s with heap := h' }) :
    wpAny (model prog w) A (newExc (.type "StopIteration") [] >>= fun e => (raiseNew e : Sem α)) Q E s := by
  have hot1 : HotAt A x1 s.heap := hot.keep fun o e => (hs.2 x1 hx).trans e
  have two : ∀ (a b : Obj) (c : Addr) (o : Obj), s.heap.get? c = some o → ((s.heap.push a).push b).get? c = some o := fun a b c o e => Heap.get?_push_of_some _ (Heap.get?_push_of_some _ e)
  refine wpAny_bind (by
    simp only [newExc, newTuple]
    refine wpAny_bind (wpAny_newObj_type (wpAny_bind (m := firstArgMember _ _) (wpAny_of_eq (a := Value.none) (by first | rfl | (simp only [firstArgMember]; rfl)) (wpAny_newObj_type ?_ (by size_fits)))) (by size_fits))
    refine raiseNew_hot (hot1.keep fun o e => two _ _ _ o e) (Nat.ne_of_lt (Nat.lt_of_lt_of_le hot1.lt (by simp [Heap.size_push]))) (Heap.get?_push_size _ rfl) rfl (by first | (simp; done) | (simp; omega) | (simp only [Array.size_append]; simp; omega)) ?_
    refine hE _ _ (fun b o hb e => ?_) ⟨_, Heap.get?_update_self _ (Heap.get?_push_size _ rfl) rfl, rfl⟩
    have e2 := (hs.2 b hb).trans e
    rw [Heap.get?_update_other _ _ (Nat.ne_of_gt (Heap.lt_size (Heap.get?_push_of_some _ e2)))]
    exact two _ _ b o e2)
/-- a list's iterator at its end -/
theorem list_next_end {it l x1 : Addr} {i : Nat} {items : Array Value} {Q : PySem.Fin → Shared → Prop} (hot : HotAt A x1 s.heap) (hx : x1 ≠ it) (hit : s.heap.IsListIter it l i) (hl : s.heap.IsList l items) (hi : items[i]? = none)
    (hE : ∀ h' e, Heap.ExtBut it s.heap h' → (∃ o, h'.get? e = some o ∧ o.cls = .type "StopIteration") → E (.ref e) { s with heap := h' }) :
    wpAny (model prog w) A (Builtin.«list_iterator.__next__» ⟨[.ref it], []⟩) Q E s := by
  obtain ⟨o, ho, _, hd⟩ := id hit
  obtain ⟨ol, hol, _, nl, hdl⟩ := hl
  have n1 : ¬ ((Value.ref l == Value.none) = true) := Bool.false_ne_true
  show wpAny _ _ (field (.ref it) 0 >>= _) _ _ s
  refine wpAny_bind (wpAny_field ho hd (x := .ref l) rfl ?_)
  show wpAny _ _ (if (Value.ref l == Value.none) = true then _ else field (.ref it) 1 >>= _) _ _ s
  rw [if_neg n1]
  exact wpAny_bind (wpAny_field ho hd (x := .int i 0) rfl (wpAny_bind (wpAny_seqItems hol hdl (by
    simp only [Int.toNat_natCast, hi]
    exact wpAny_bind (wpAny_rule (wpAny_bind (wpAny_setField ho hd (by simp) (stop_hot (h0 := s.heap) hot hx (Heap.SameBut.update ..) hE))))))))
/-- a tuple's iterator at its end -/
theorem tuple_next_end {it l x1 : Addr} {i : Nat} {items : Array Value} {Q : PySem.Fin → Shared → Prop} (hot : HotAt A x1 s.heap) (hx : x1 ≠ it) (hit : s.heap.IsTupleIter it l i) (hl : s.heap.IsTuple l items) (hi : items[i]? = none)
    (hE : ∀ h' e, Heap.ExtBut it s.heap h' → (∃ o, h'.get? e = some o ∧ o.cls = .type "StopIteration") → E (.ref e) { s with heap := h' }) :
    wpAny (model prog w) A (Builtin.«tuple_iterator.__next__» ⟨[.ref it], []⟩) Q E s := by
  obtain ⟨o, ho, _, hd⟩ := id hit
  obtain ⟨ol, hol, _, nl, hdl⟩ := hl
  have n1 : ¬ ((Value.ref l == Value.none) = true) := Bool.false_ne_true
  show wpAny _ _ (field (.ref it) 0 >>= _) _ _ s
  refine wpAny_bind (wpAny_field ho hd (x := .ref l) rfl ?_)
  show wpAny _ _ (if (Value.ref l == Value.none) = true then _ else field (.ref it) 1 >>= _) _ _ s
  rw [if_neg n1]
  exact wpAny_bind (wpAny_field ho hd (x := .int i 0) rfl (wpAny_bind (wpAny_seqItems hol hdl (by
    simp only [Int.toNat_natCast, hi]
    exact wpAny_bind (wpAny_rule (wpAny_bind (wpAny_setField ho hd (by simp) (stop_hot (h0 := s.heap) hot hx (Heap.SameBut.update ..) hE))))))))
/-- what StopIteration does to a walk -/
theorem stopped {h' : Heap} {e : Addr} {Q : Option Value → Shared → Prop} (ho : ∃ o, h'.get? e = some o ∧ o.cls = .type "StopIteration") (q : Q none { s with heap := h' }) :
    wpAny (model prog w) A (do let b ← isInstance (.ref e) (.type "StopIteration"); if b then pure none else throw (.ref e) : Sem (Option Value)) Q E { s with heap := h' } := by
  obtain ⟨o, ho, hc⟩ := ho
  exact wpAny_bind (wpAny_isInstance (T := "StopIteration") (b := true) ⟨o, ho, hc⟩ isSubtype_stop (wpAny_pure q))
theorem pyNext_list_end_hot {it l x1 : Addr} {i : Nat} {items : Array Value} {Q : Option Value → Shared → Prop} (hot : HotAt A x1 s.heap) (hx1 : x1 ≠ it) (hit : s.heap.IsListIter it l i) (hl : s.heap.IsList l items) (hx : items[i]? = none)
    (hQ : ∀ h', Heap.ExtBut it s.heap h' → Q none { s with heap := h' }) : wpAny (model prog w) A (pyNext (.ref it)) Q E s := by
  unfold pyNext
  exact wpAny_bind (wpAny_attempt (wpAny_callSpecial?_slot (name := Str.ofString "__next__") hit.typeIs slot_listiter_next (wpAny_call_entry slot_listiter_next hit.typeIs entry_listiter_next (list_next_end hot hx1 hit hl hx fun h' e he ho => stopped ho (hQ h' he)) (args_listiter_next _))))
theorem pyNext_tuple_end_hot {it l x1 : Addr} {i : Nat} {items : Array Value} {Q : Option Value → Shared → Prop} (hot : HotAt A x1 s.heap) (hx1 : x1 ≠ it) (hit : s.heap.IsTupleIter it l i) (hl : s.heap.IsTuple l items) (hx : items[i]? = none)
    (hQ : ∀ h', Heap.ExtBut it s.heap h' → Q none { s with heap := h' }) : wpAny (model prog w) A (pyNext (.ref it)) Q E s := by
  unfold pyNext
  exact wpAny_bind (wpAny_attempt (wpAny_callSpecial?_slot (name := Str.ofString "__next__") hit.typeIs F.slot_tuple_iterator_next (wpAny_call_entry F.slot_tuple_iterator_next hit.typeIs F.entry_tuple_iterator_next (tuple_next_end hot hx1 hit hl hx fun h' e he ho => stopped ho (hQ h' he)) (F.args_tuple_iterator_next_1 _))))
end
/-- a list drawn from while x1 is handled -/
theorem draws_listH {prog : Program} {w : World} {A : Around} (it l x1 : Addr) (hne : l ≠ it) (hx : x1 ≠ it) (items : Array Value) :
    Draws prog w A it [it, l, x1] items.size (fun i v => items[i]? = some v) (fun i h => h.IsListIter it l i ∧ h.IsList l items ∧ HotAt A x1 h) where
  live := fun _ _ st => st.1.imp fun _ h => h.1
  frame := fun _ _ _ st hk => ⟨st.1.at (hk it (by simp)), st.2.1.at (hk l (by simp)), st.2.2.keep (hk x1 (by simp))⟩
  item := fun i s Q E hi st hQ => wpAny_nextOf_list_item st.1 st.2.1 (x := items[i]) (by simp [hi]) fun h' a b => hQ _ h' s.toks (by simp [hi]) ⟨a, st.2.1.extBut b.extBut hne, st.2.2.keep fun o e => b.extBut x1 o hx e⟩ b
  done := fun s Q E st hE => by
    unfold Builtin.SmallTypes.nextOf
    exact wpAny_bind (wpAny_callSpecial?_slot (name := Str.ofString "__next__") st.1.typeIs slot_listiter_next (wpAny_call_entry slot_listiter_next st.1.typeIs entry_listiter_next (list_next_end st.2.2 hx st.1 st.2.1 (by simp) hE) (args_listiter_next _)))
/-- a list, a tuple walked over while x1 is handled -/
theorem walks_listH {prog : Program} {w : World} {A : Around} (it l x1 : Addr) (hne : l ≠ it) (hx : x1 ≠ it) (items : Array Value) :
    Walks prog w A it [it, l, x1] [it] items.size (fun i v => items[i]? = some v) (fun i h => h.IsListIter it l i ∧ h.IsList l items ∧ HotAt A x1 h) where
  sub := fun b hb => List.mem_cons.mpr (.inl (by simpa using hb))
  frame := fun _ _ _ st hk => ⟨st.1.at (hk it (by simp)), st.2.1.at (hk l (by simp)), st.2.2.keep (hk x1 (by simp))⟩
  item := fun i s Q E hi st hQ => wpAny_pyNext_list_item st.1 st.2.1 (x := items[i]) (by simp [hi]) fun h' a b => hQ _ h' s.toks (by simp [hi]) ⟨a, st.2.1.extBut b.extBut hne, st.2.2.keep fun o e => b.extBut x1 o hx e⟩ fun c o hc e => b.extBut c o (fun z => hc (by simp [z])) e
  done := fun s Q E st hQ => pyNext_list_end_hot st.2.2 hx st.1 st.2.1 (by simp) fun h' he => hQ h' s.toks fun c o hc e => he c o (fun z => hc (by simp [z])) e
  self := fun _ _ _ _ st hQ => wpAny_pyIter_listiter st.1 hQ
theorem walks_tupleH {prog : Program} {w : World} {A : Around} (it l x1 : Addr) (hne : l ≠ it) (hx : x1 ≠ it) (items : Array Value) :
    Walks prog w A it [it, l, x1] [it] items.size (fun i v => items[i]? = some v) (fun i h => h.IsTupleIter it l i ∧ h.IsTuple l items ∧ HotAt A x1 h) where
  sub := fun b hb => List.mem_cons.mpr (.inl (by simpa using hb))
  frame := fun _ _ _ st hk => ⟨st.1.at (hk it (by simp)), st.2.1.at (hk l (by simp)), st.2.2.keep (hk x1 (by simp))⟩
  item := fun i s Q E hi st hQ => wpAny_pyNext_tuple_item st.1 st.2.1 (x := items[i]) (by simp [hi]) fun h' a b => hQ _ h' s.toks (by simp [hi]) ⟨a, st.2.1.extBut b.extBut hne, st.2.2.keep fun o e => b.extBut x1 o hx e⟩ fun c o hc e => b.extBut c o (fun z => hc (by simp [z])) e
  done := fun s Q E st hQ => pyNext_tuple_end_hot st.2.2 hx st.1 st.2.1 (by simp) fun h' he => hQ h' s.toks fun c o hc e => he c o (fun z => hc (by simp [z])) e
  self := fun _ _ _ _ st hQ => wpAny_pyIter_tupleiter st.1 hQ
end HotX
namespace L2H
open PySem PySem.Spec PyProof.Rows L2 HotX
section
variable {X : Cx} {pins : List (Addr × Obj)} {σ : St} {H : Hp} {s : Shared} {tg : Expr}
/-- the handled one is none of the walk's own objects -/
theorem HotC.off (c : HotC X) (I : Inv X pins σ H s) {it : Addr} (f : FpOk X pins H it) : ∃ x1, HotAt X.A x1 s.heap ∧ x1 ≠ it := by
  obtain ⟨p, ⟨hh, v1, e1, c1⟩, hp⟩ := c
  have hm := List.mem_append_left pins hp
  exact ⟨p.1, ⟨hh, p.2, v1, (I.pin p hm).1, e1, c1⟩, f.2.2.2.2.2 p hm⟩
/-- a change of the walk's own object alone -/
theorem stepped {it : Addr} {h' : Heap} {tk : Nat} (I : Inv X pins σ H s) (f : FpOk X pins H it) (k : ∀ b o, b ≠ it → s.heap.get? b = some o → h'.get? b = some o) : Inv X pins σ H { s with heap := h', toks := tk } :=
  I.turned k f.1 f.2.1 f.2.2.2.1 f.2.2.2.2.1 f.2.2.2.2.2
theorem turn_listH {P : Program} {w : World} {K : PySem.W.Frag} (a it : Addr) : TurnH P w K tg (Itl K a) [it] it (fun i h => h.IsListIter it a i) :=
  have T := turn_list (P := P) (w := w) (K := K) (tg := tg) a it
  { mem := T.mem, obj := T.obj, keep := T.keep, self := T.self
    item := fun Y hP hw hK hc i pins s σ H E I hf st ⟨xs, x, hq, hx⟩ => by
      subst hP hw hK
      obtain ⟨its, rv, p, _⟩ := I.list hq
      obtain ⟨u, hu, ru⟩ := rv.get hx
      refine wpAny_pyNext_list_item st p.isList (by simpa using hu) fun h' st' sb => ⟨u, rfl, ?_⟩
      obtain ⟨o, e, c, d⟩ := id st'
      exact go_of (s := { s with heap := h' }) e c d (by decide) ⟨x, H, stepped (tk := s.toks) I (hf it (List.mem_cons_self ..)) (fun b o hb e => (sb.2 b hb).trans e), ru, ⟨rfl, fun ys hy => I.list_inj hy hq ▸ hx⟩, st', fun b hb => (hf b hb).1⟩
    done := fun Y hP hw hK hc i pins s σ H E I hf st ⟨xs, hq, hx⟩ => by
      subst hP hw hK
      obtain ⟨its, rv, p, _⟩ := I.list hq
      have f := hf it (List.mem_cons_self ..)
      obtain ⟨x1, hot, ne⟩ := hc.off I f
      have hl := rv.length
      exact pyNext_list_end_hot hot ne st p.isList (by simp; omega) fun h' k => ⟨rfl, stepped (tk := s.toks) I f k⟩ }
theorem turn_tupleH {P : Program} {w : World} {K : PySem.W.Frag} (a it : Addr) : TurnH P w K tg (Itt K a) [it] it (fun i h => h.IsTupleIter it a i) :=
  have T := turn_tuple (P := P) (w := w) (K := K) (tg := tg) a it
  { mem := T.mem, obj := T.obj, keep := T.keep, self := T.self
    item := fun Y hP hw hK hc i pins s σ H E I hf st ⟨xs, x, hq, hx⟩ => by
      subst hP hw hK
      obtain ⟨its, rv, p, _⟩ := I.tuple hq
      have p : s.heap.IsTuple a its.toArray := p
      obtain ⟨u, hu, ru⟩ := rv.get hx
      refine wpAny_pyNext_tuple_item st p (by simpa using hu) fun h' st' sb => ⟨u, rfl, ?_⟩
      obtain ⟨o, e, c, d⟩ := id st'
      exact go_of (s := { s with heap := h' }) e c d (by decide) ⟨x, H, stepped (tk := s.toks) I (hf it (List.mem_cons_self ..)) (fun b o hb e => (sb.2 b hb).trans e), ru, ⟨rfl, fun ys hy => I.tuple_inj hy hq ▸ hx⟩, st', fun b hb => (hf b hb).1⟩
    done := fun Y hP hw hK hc i pins s σ H E I hf st ⟨xs, hq, hx⟩ => by
      subst hP hw hK
      obtain ⟨its, rv, p, _⟩ := I.tuple hq
      have p : s.heap.IsTuple a its.toArray := p
      have f := hf it (List.mem_cons_self ..)
      obtain ⟨x1, hot, ne⟩ := hc.off I f
      have hl := rv.length
      exact pyNext_tuple_end_hot hot ne st p (by simp; omega) fun h' k => ⟨rfl, stepped (tk := s.toks) I f k⟩ }
theorem turn_enumH {P : Program} {w : World} {K : PySem.W.Frag} {elts : List Expr} {kk : Nat} {tpos : Pos} (a e it : Addr) :
    TurnH P w K (.Tuple elts kk tpos) (Ite K a) [e, it] e (fun i h => (∃ old, IsEnum h e it ((i : Nat) : Int) old) ∧ h.IsListIter it a i ∧ e ≠ it) :=
  have T := turn_enum (P := P) (w := w) (K := K) (elts := elts) (kk := kk) (tpos := tpos) a e it
  { mem := T.mem, obj := T.obj, keep := T.keep, self := T.self
    item := fun Y hP hw hK hc i pins s σ H E I hf st ⟨xs, x, hq, hx⟩ => by
      subst hP hw hK
      obtain ⟨⟨old, he⟩, hit, hne⟩ := st
      obtain ⟨its, rv, p, _⟩ := I.list hq
      obtain ⟨u, hu, ru⟩ := rv.get hx
      have lt : ∀ b, b ∈ [e, it] → b < s.heap.objs.size := fun b hb => by
        obtain ⟨o, q, _⟩ := T.obj i s.heap ⟨⟨old, he⟩, hit, hne⟩ b hb
        exact Heap.lt_size q
      refine wpAny_pyNext_enum_item he hit p.isList (x := u) (by simpa using hu) hne fun h1 out hit1 tup _ kept => ⟨_, rfl, wpAny_letOwnedTupleGo_enum (s := { s with heap := h1, toks := s.toks + 1 }) out fun h2 he2 sb => ?_⟩
      have tup2 := (sb.2 _ (Nat.ne_of_gt (lt e (by simp)))).trans tup
      have two : ObjOk Y.prog Y.w (upd H s.heap.objs.size (.tup [.int (i : Nat), x])) h2 s.heap.objs.size (.tup [.int (i : Nat), x]) := ⟨by show 2 ≤ sizeLine; decide, [.int i s.toks, u], .cons ⟨_, rfl⟩ (.cons ru .nil), ⟨_, tup2, rfl, _, rfl⟩⟩
      have J := I.turnedNew (h' := h2) (t' := s.toks + 1) (ch := [e, it])
        (fun b ob hb q => by
          simp only [List.mem_cons, List.not_mem_nil, or_false, not_or] at hb
          exact (sb.2 b hb.1).trans (kept b ob hb.1 hb.2 q)) hf (Nat.le_refl _) two
      refine ⟨.ref s.heap.objs.size, _, J, rfl, ⟨_, x, rfl, I.hok.fresh (Nat.le_refl _), rfl, fun ys hy => I.list_inj hy hq ▸ hx⟩, ⟨⟨u, ?_⟩, hit1.at fun o q => (sb.2 it (Ne.symm hne)).trans q, hne⟩, fun b hb => by rw [upd_ne (Nat.ne_of_lt (lt b hb))]; exact (hf b hb).1⟩
      rw [show ((i + 1 : Nat) : Int) = (i : Int) + 1 by omega]
      exact he2
    done := fun Y hP hw hK hc i pins s σ H E I hf st ⟨xs, hq, hx⟩ => by
      subst hP hw hK
      obtain ⟨⟨old, he⟩, hit, hne⟩ := st
      obtain ⟨its, rv, p, _⟩ := I.list hq
      have f := hf it (List.mem_cons_of_mem _ (List.mem_cons_self ..))
      obtain ⟨x1, hot, nx⟩ := hc.off I f
      obtain ⟨x2, hot2, nx2⟩ := hc.off I (hf e (List.mem_cons_self ..))
      have hl := rv.length
      have hT : s.TypeIs (.ref e) "enumerate" := ⟨_, he, rfl⟩
      unfold pyNext
      refine wpAny_bind (wpAny_attempt (wpAny_callSpecial?_slot (name := Str.ofString "__next__") hT F.slot_enumerate_next (wpAny_call_entry F.slot_enumerate_next hT F.entry_enumerate_next ?_ (F.args_enumerate_next_1 _))))
      show wpAny _ _ (field (.ref e) 2 >>= _) _ _ _
      refine wpAny_bind (wpAny_field he rfl (x := .ref it) rfl (wpAny_bind ?_))
      unfold Builtin.SmallTypes.nextOf
      exact wpAny_bind (wpAny_callSpecial?_slot (name := Str.ofString "__next__") hit.typeIs slot_listiter_next (wpAny_call_entry slot_listiter_next hit.typeIs entry_listiter_next (list_next_end hot nx hit p.isList (by simp; omega) fun h' x k ho => stopped ho ⟨rfl, stepped (tk := s.toks) I f k⟩) (args_listiter_next _))) }
/-- an iterator just made -/
theorem pih_one {R : It → Hp → Prop} {J : It} {tn : Nat → Heap → Prop} {tk : Nat} (I : Inv X pins σ H s) (o : Obj) (T : TurnH X.prog X.w X.K tg J [s.heap.objs.size] s.heap.objs.size tn) (st : tn 0 (s.heap.push o)) (q : R J H) :
    PIEH X pins σ tg R (.ref s.heap.objs.size) { s with heap := s.heap.push o, toks := tk } :=
  ⟨_, _, tn, J, H, rfl, I.kept fun b ob e => Heap.get?_push_of_some _ e, T, st, fun b hb => by
    rw [List.mem_singleton.mp hb]
    exact I.fpOk (Nat.le_refl _) (I.hok.fresh (Nat.le_refl _)), q⟩
theorem pi_listH {l : Expr} {tl : TE} (hl : PE X l tl) : PIH X tg l (iList X.K tl) := ⟨fun pins s σ H R I h => thn (hl.run pins s σ H _ I h) fun v s1 ⟨x, H1, I1, r1, a, e, ⟨xs, hq⟩, q⟩ => by
  subst e
  cases r1
  obtain ⟨its, rv, p, _⟩ := I1.list hq
  exact wpAny_pyIter_list p.isList (pih_one (tk := s1.toks) I1 _ (turn_listH a _) ⟨_, Heap.get?_push_size _ rfl, rfl, rfl⟩ q)⟩
theorem pi_tupH {l : Expr} {tl : TE} (hl : PE X l tl) : PIH X tg l (iTup X.K tl) := ⟨fun pins s σ H R I h => thn (hl.run pins s σ H _ I h) fun v s1 ⟨x, H1, I1, r1, a, e, ⟨xs, hq⟩, q⟩ => by
  subst e
  cases r1
  obtain ⟨its, rv, p, _⟩ := I1.tuple hq
  have p : s1.heap.IsTuple a its.toArray := p
  exact wpAny_pyIter_tuple p (pih_one (tk := s1.toks) I1 _ (turn_tupleH a _) ⟨_, Heap.get?_push_size _ rfl, rfl, rfl⟩ q)⟩
theorem pi_enumH {e : Expr} {ta : TA} {p pos tpos : Pos} {elts : List Expr} {kk : Nat} (hg : Gl X "enumerate") (hm : X.mg "enumerate" = none) (ha : PA X [e] ta) (hs : starEach [e] X.env = [(false, eval e X.env)] := by rfl) :
    PIH X (.Tuple elts kk tpos) (.Call (.Name "enumerate" p) [e] [] pos) (iEnum X.K ta) := by
  refine ⟨fun pins s σ H R I h => Call_ (ld_blt I hg hm boot_enumerate (PyProof.Rows.callWith_type1 (thn (ha.run pos pins s σ H _ I h) fun us s1 got => ?_) hs rfl))⟩
  obtain ⟨vs, H1, I1, r1, a, xs, ex, hq, q⟩ := got
  subst ex
  obtain ⟨its, rv, pl, _⟩ := I1.list hq
  rw [Vals.ref1 r1]
  refine call_enumerate_list pl.isList fun h' he hit _ hk => wpAny_pyIter_enum he ⟨s1.heap.objs.size + 1, [s1.heap.objs.size + 1, s1.heap.objs.size], _, _, H1, rfl, I1.kept (t' := s1.toks) hk, turn_enumH a _ _, ⟨⟨.none, he⟩, hit, Nat.succ_ne_self _⟩, fun b hb => ?_, q⟩
  have hle : s1.heap.objs.size ≤ b := by
    simp only [List.mem_cons, List.not_mem_nil, or_false] at hb
    rcases hb with z | z <;> rw [z]
    · exact Nat.le_succ _
    · exact Nat.le_refl _
  exact I1.fpOk hle (I1.hok.fresh hle)
end
end L2H
namespace L2H
open PySem PySem.Spec PyProof.Rows L2 HotX
/-- a block's context that bears the handled one -/
abbrev _root_.L2.Cx.blkH (X : Cx) (p : Addr × Obj) (s : Shared) (H : Hp) (scope : Scope) (cenv : Env) (fp : List Addr) : Cx := { X.blk s H scope cenv fp with pn := [p] }
theorem mem_one {α : Type} {p q : α} (h : q ∈ [p] ++ ([] : List α)) : q = p := by simpa using h
theorem blkH_of {X : Cx} {p : Addr × Obj} {σ : St} {H H0 : Hp} {s s0 : Shared} {scope : Scope} {ce : Env} {fp : List Addr} (I : Inv (X.blk s0 H0 scope ce fp) [] σ H s)
    (h : s.heap.get? p.1 = some p.2 ∧ H p.1 = none ∧ p.1 ≠ ce.locals ∧ p.1 ∉ frs X.stack ∧ ∀ v, p.2.data ≠ .cell v) : Inv (X.blkH p s0 H0 scope ce fp) [] σ H s :=
  have ok := I.ok
  ⟨⟨ok.mod, ok.kind, ok.glob, ok.blt, ok.above, ok.inj, ok.has, ok.cab, ok.hd, ok.frames, ok.stk, ok.exf, ok.bs, ok.bsz, ok.noex, ok.exfs, ok.funs, ok.frf⟩, I.os, I.bare, I.base, I.loc, I.cell, I.free, I.freeC, fun q hq => by rw [mem_one hq]; exact h, I.hok, I.len⟩
section
variable {X : Cx} {p : Addr × Obj} {pins : List (Addr × Obj)} {σ : St} {elt iter : Expr} {x : Str} {px : Pos} {scope : Scope} {j : Nat} {pos : Pos} {te : TE} {J : It} {it : Addr} {fp : List Addr} {tn : Nat → Heap → Prop}
/-- the walk's own objects, seen from the block -/
theorem blk_fp {Y : Cx} {H H' : Hp} {s : Shared} {ce : Env} (hY : Y = X.blkH p s H scope ce fp) {σ' : St} {s' : Shared} (I : Inv Y [] σ' H' s') (np : ∀ b ∈ fp, p.1 ≠ b) (hn : ∀ b ∈ fp, H' b = none) : ∀ b ∈ fp, FpOk Y [] H' b := fun b hb => by
  subst hY
  exact ⟨hn b hb, (I.ok.exf b hb).1, I.ok.exfs b hb, .inl hb, (I.ok.exf b hb).2, fun q hq => by rw [mem_one hq]; exact np b hb⟩
/-- one turn of the block: what the loop is to hold again -/
theorem turn_of {Y : Cx} {L : Addr} {H5 : Hp} {s5 : Shared} {i : Nat} {Nx : Hp → Prop} {Q : Shared → Prop} (hc : HotC Y) (T : TurnH Y.prog Y.w Y.K (.Name x px) J fp it tn) (pg : PG Y (.Name x px) (gName j)) (pe : PE Y elt te)
    (ff : ∀ {σ' : St} {H' : Hp} {s' : Shared}, Inv Y [] σ' H' s' → (∀ b ∈ fp, H' b = none) → ∀ b ∈ fp, FpOk Y [] H' b)
    (I5 : Inv Y [] (wipe σ [j]) H5 s5) (st5 : tn i s5.heap) (n5 : ∀ b ∈ fp, H5 b = none) (go : J.go i H5)
    (step : ∀ v H', J.yld i H5 v H' → gName j v (wipe σ [j]) H' fun σ2 H2 => wipe σ2 [j] = wipe σ [j] ∧ te σ2 H2 fun y H4 => ∃ acc, H4 L = some (.lst acc) ∧ acc.length < sizeLine ∧ Nx (upd H4 L (.lst (acc ++ [y]))))
    (fin : ∀ s' H', Inv Y [] (wipe σ [j]) H' s' → tn (i + 1) s'.heap → (∀ b ∈ fp, H' b = none) → Nx H' → Q s') :
    wpAny (model Y.prog Y.w) Y.A (pyNext (.ref it)) (fun r s₁ => ∃ v, r = some v ∧ wpAny (model Y.prog Y.w) Y.A (letOwnedTupleGo (.Name x px) (.ref it) v) (fun _ s₁' => wpAny (model Y.prog Y.w) Y.A (assign (.Name x px) Y.env v) (fun _ s₂ =>
      wpAny (model Y.prog Y.w) Y.A (eval elt Y.env) (fun z s₄ => wpAny (model Y.prog Y.w) Y.A (call (.builtin "list.append") [.ref L, z]) (fun _ s₅ => Q s₅) Y.xe s₄) Y.xe s₂) Y.xe s₁') Y.xe s₁) Y.xe s5 := by
  refine thn (T.item Y rfl rfl rfl hc i [] s5 _ H5 Y.xe I5 (ff I5 n5) st5 go) fun r s6 ⟨u, hr, h6⟩ => ⟨u, hr, thn h6 fun _ s7 ⟨v, H7, I7, r7, y7, st7, n7⟩ => ?_⟩
  have pinned := I7.pinned (ff I7 n7) (T.obj _ _ st7)
  refine thn (pg.run _ s7 _ H7 v u _ pinned r7 (step v H7 y7)) fun _ s8 ⟨σ8, H8, I8, hw, q8⟩ => thn (pe.run _ s8 σ8 H8 _ I8 q8) fun z s9 ⟨y, H9, I9, r9, acc, hL, hz, nx⟩ => ?_
  refine app_ok (X := Y) I9 hL hz r9 fun s10 I10 => fin s10 _ ((I10.unpinned (pins := [])).weak (by rw [← hw, wipe_length]) fun k a e => by rw [← hw] at e; exact (wipe_some e).1) (T.keep _ _ _ st7 fun b hb o e => (I10.pin (b, o) (List.mem_append_right _ (List.mem_append_right _ (mem_pinsAt hb e)))).1) (fun b hb => ?_) nx
  obtain ⟨o, e, _⟩ := T.obj _ _ st7 b hb
  exact (I10.pin (b, o) (List.mem_append_right _ (List.mem_append_right _ (mem_pinsAt hb e)))).2.1
end
end L2H
namespace L2H
open PySem PySem.Spec PyProof.Rows L2 HotX
section
variable {X : Cx} {p : Addr × Obj} {pins : List (Addr × Obj)} {σ : St} {H : Hp} {s : Shared}
/-- an empty list is laid -/
theorem laid0 (I : Inv X pins σ H s) : Inv X pins σ (upd H s.heap.objs.size (.lst [])) { s with heap := s.heap.push { cls := .type "list", data := .seq ([] : List Value).toArray } } :=
  I.laid (t' := s.toks) (fun b o e => Heap.get?_push_of_some _ e) (Nat.le_refl _) ⟨Nat.zero_le _, [], 0, .nil, Heap.get?_push_size _ rfl⟩
/-- the block begins, the handled one in sight -/
theorem begun {scope : Scope} {own : List (Str × Nat)} {fp : List Addr} (hp : p ∈ X.pn) (I : Inv X pins σ H s) (ok : BlkOk X.N X.env.scope scope own) (hN : X.N.Nodup) (hf : ∀ b ∈ fp, FpOk X pins H b ∧ b < s.heap.objs.size) :
    Inv (X.blkH p s H scope (compEnvC scope (cellsFrom (s.heap.objs.size + 1) scope.names (cloFrom X.env.cells scope.names [])) s.heap.objs.size X.env) fp) [] (wipe σ (own.map (·.2))) H { s with heap := pushCells (s.heap.push { cls := .type "dict", data := .dict #[] }) scope.names } := by
  obtain ⟨a1, a2, a3, a4, a5⟩ := I.pin p (List.mem_append_left _ hp)
  exact blkH_of (block_start I ok hN hf) ⟨pushCells_keeps _ _ _ _ (Heap.get?_push_of_some _ a1), a2, Nat.ne_of_lt (Heap.lt_size a1), fun hm => (List.mem_cons.mp (I.stkSub p.1 hm)).elim a3 a4, a5⟩
/-- the block is left -/
theorem left_ {Y : Cx} {scope : Scope} {ce : Env} {fp : List Addr} {H' : Hp} {σ' : St} {s' : Shared} (hY : Y = X.blkH p s H scope ce fp) (I : Inv X pins σ H s) (I' : Inv Y [] σ' H' s') (hf : ∀ b ∈ fp, FpOk X pins H b) : Inv X pins σ H' s' := by
  subst hY
  exact I.call' (ch := fp) I'.os I'.base I'.hok I'.bare fun b hb => ⟨(hf b hb).2.2.2.1, (hf b hb).2.1, (hf b hb).2.2.2.2.1, (hf b hb).2.2.2.2.2⟩
theorem loop_hot {Y : Cx} {s4 : Shared} {elt iter : Expr} {x : Str} {px : Pos} {scope : Scope} {j : Nat} {pos : Pos} {te : TE} {J : It} {it L : Addr} {fp : List Addr} {tn : Nat → Heap → Prop} {W : Nat → Nat → Hp → Prop} {m0 : Nat} {ce : Env} {Q : VK}
    (hot : Hot1 X.A p) (hp : p ∈ X.pn) (hY : Y = X.blkH p s H scope ce fp) (cL : ce.locals = s.heap.objs.size) (I3 : Inv X pins σ H s) (f3 : ∀ b ∈ fp, FpOk X pins H b) (T : TurnH X.prog X.w X.K (.Name x px) J fp it tn) (pg : PG Y (.Name x px) (gName j)) (pe : PE Y elt te) (I4 : Inv Y [] (wipe σ [j]) H s4) (st4 : tn 0 s4.heap) (w0 : W 0 m0 H)
    (turn : ∀ i m H, W i m H → (J.stop i H ∧ Q (.ref L) H) ∨ (J.go i H ∧ ∃ Nx : Hp → Prop, (∀ H', Nx H' → ∃ m', m' < m ∧ W (i + 1) m' H') ∧ ∀ v H', J.yld i H v H' → gName j v (wipe σ [j]) H' fun σ2 H2 => wipe σ2 [j] = wipe σ [j] ∧ te σ2 H2 fun y H4 => ∃ acc, H4 L = some (.lst acc) ∧ acc.length < sizeLine ∧ Nx (upd H4 L (.lst (acc ++ [y]))))) :
    codeAny (model X.prog X.w) X.A (.compLoop (.ListComp elt [⟨.Name x px, iter, [], 0⟩] scope pos) 0 (.ref it) (.ref L) ce) (compPost (model X.prog X.w) X.A X.xe none (EP X pins σ Q) (.ref L) s.heap.objs.size) s4 := by
  have np : ∀ b ∈ fp, p.1 ≠ b := fun b hb => (f3 b hb).2.2.2.2.2 p (List.mem_append_left _ hp)
  have ff : ∀ {σ' : St} {H' : Hp} {s' : Shared}, Inv Y [] σ' H' s' → (∀ b ∈ fp, H' b = none) → ∀ b ∈ fp, FpOk Y [] H' b := fun I' hn => blk_fp hY I' np hn
  have hc : HotC Y := by subst hY; exact ⟨p, hot, List.mem_cons_self ..⟩
  refine compLoop_any (fun n s' => ∃ i H', Inv Y [] (wipe σ [j]) H' s' ∧ tn i s'.heap ∧ (∀ b ∈ fp, H' b = none) ∧ W i n H') (fun n s5 ⟨i, H5, I5, st5, n5, w5⟩ => ?_) m0 ⟨0, H, I4, st4, fun b hb => (f3 b hb).1, w0⟩
  have key := turn i n H5 w5
  have leave := fun (s6 : Shared) (I6 : Inv Y [] (wipe σ [j]) H5 s6) => left_ hY I3 I6 f3
  subst hY
  rcases key with ⟨stop, qq⟩ | ⟨go, Nx, hNx, step⟩
  · refine thnF (T.done (X.blkH p s H scope ce fp) rfl rfl rfl hc i [] s5 _ H5 (fun _ _ => False) I5 (ff I5 n5) st5 stop) fun r s6 ⟨hr, I6⟩ => ?_
    subst hr
    obtain ⟨m, hn, _⟩ := I6.loc
    have fc : FpOk X pins H5 s.heap.objs.size := I3.fpOk (Nat.le_refl _) (by have z : H5 ce.locals = none := I6.free; rw [cL] at z; exact z)
    exact ⟨m, by have z : s6.heap.Ns ce.locals m := hn; rw [cL] at z; exact z, fun h' sb => ⟨.ref L, H5, stepped (tk := s6.toks) (leave s6 I6) fc (fun b o hb e => (sb.2 b hb).trans e), rfl, qq⟩⟩
  · refine thnF (turn_of (Y := X.blkH p s H scope ce fp) (Q := fun s' => ∃ m, m < n ∧ ∃ i H', Inv (X.blkH p s H scope ce fp) [] (wipe σ [j]) H' s' ∧ tn i s'.heap ∧ (∀ b ∈ fp, H' b = none) ∧ W i m H') hc T pg pe ff I5 st5 n5 go step fun s' H' I' st' n' nx => ?_) fun r s6 ⟨v, hr, h6⟩ => ?_
    · obtain ⟨m', hm, w'⟩ := hNx H' nx
      exact ⟨m', hm, i + 1, H', I', st', n', w'⟩
    · subst hr
      exact thnF h6 fun _ s7 h7 => thnF h7 fun _ s8 h8 => wpAny_tests_nil (by
        rw [if_pos rfl]
        exact thnF h8 fun z s9 h9 => thnF h9 fun _ s10 h10 => h10)
/-- [elt for x in iter] while an exception is handled -/
theorem pe_lcH {elt iter : Expr} {x : Str} {px : Pos} {scope : Scope} {j : Nat} {pos : Pos} {wi : TI} {te : TE} (hot : Hot1 X.A p) (hp : p ∈ X.pn) (hN : X.N.Nodup) (hi : PIH X (.Name x px) iter wi) (ok : BlkOk X.N X.env.scope scope [(x, j)])
    (hg : ∀ (s : Shared) (H : Hp) (C : Addr) (cl : List (Str × Addr)) (fp : List Addr), PG (X.blkH p s H scope (compEnvC scope cl C X.env) fp) (.Name x px) (gName j))
    (he : ∀ (s : Shared) (H : Hp) (C : Addr) (cl : List (Str × Addr)) (fp : List Addr), PE (X.blkH p s H scope (compEnvC scope cl C X.env) fp) elt te) (hs : ∀ x, foldedSetIterable iter X.env x = pure x := by intro _; rfl) :
    PE X (.ListComp elt [⟨.Name x px, iter, [], 0⟩] scope pos) (tLc wi (gName j) tYes te [j]) := by
  refine ⟨fun pins s σ H Q I h => ?_⟩
  rw [eval_ListComp]
  have has := I.ok.has
  refine wpAny_comprehension_free (use := none) rfl hs (closure_ok fun y hy e => has y.1 (ok.free y hy e)) ok.kind (fun y hy e => by rw [ok.uniq y hy, e]) (thn (hi.run pins s σ H _ I h) fun _ s1 h1 => thn h1 fun itv s2 h2 => ?_)
  obtain ⟨it, fp, tn, J, H2, rfl, I2, T, st2, f2, q⟩ := h2
  refine wpAny_newObj_type (newEnv_comp ?_) (by show 0 ≤ sizeLine; decide)
  have I3 := laid0 I2
  have lt : ∀ b ∈ fp, b < s2.heap.objs.size := fun b hb => (T.obj _ _ st2 b hb).elim fun o e => Heap.lt_size e.1
  have f3 : ∀ b ∈ fp, FpOk X pins (upd H2 s2.heap.objs.size (.lst [])) b := fun b hb => ⟨(upd_ne (Nat.ne_of_lt (lt b hb))).trans (f2 b hb).1, (f2 b hb).2⟩
  have st3 := T.keep _ _ _ st2 fun b _ o e => Heap.get?_push_of_some { cls := .type "list", data := .seq ([] : List Value).toArray } e
  obtain ⟨W, ⟨m0, w0⟩, turn⟩ := q s2.heap.objs.size (I2.hok.fresh (Nat.le_refl _))
  have I4 := begun hp I3 ok hN fun b hb => ⟨f3 b hb, by show b < (s2.heap.push _).objs.size; rw [Heap.size_push]; exact Nat.lt_succ_of_lt (lt b hb)⟩
  have st4 := T.keep _ _ _ st3 fun b _ o e => pushCells_keeps scope.names _ _ _ (Heap.get?_push_of_some { cls := .type "dict", data := .dict #[] } e)
  have loop := loop_hot (iter := iter) (pos := pos) hot hp rfl rfl I3 f3 T (hg _ _ _ _ _) (he _ _ _ _ _) I4 st4 w0 turn
  exact codeAny_compStart_list loop (T.self X.A 0 _ _ _ st4 loop)
end
end L2H

/-! Part 40: data logic within an except suite: calls, loops, comprehensions. -/
namespace HotX
open PySem PySem.Spec PyProof.Rows
section
variable {prog : Program} {w : World} {A : Around} {E : Value → Shared → Prop} {s : Shared}
/-- a tuple unpacked while x1 is handled -/
theorem unpackItems_hot {t x1 : Addr} {items : Array Value} {Q : List Value → Shared → Prop} (hot : HotAt A x1 s.heap) (ht : s.heap.IsTuple t items)
    (hQ : ∀ h', Heap.ExtBut s.heap.objs.size s.heap h' → Q items.toList { s with heap := h' }) : wpAny (model prog w) A (unpackItems (.ref t) items.size none) Q E s := by
  have lt : t < s.heap.objs.size := ht.elim fun o h => Heap.lt_size h.1
  have nx := Nat.ne_of_lt hot.lt
  have all : (items.toList.drop 0).take items.size = items.toList := by rw [List.drop_zero]; exact List.take_of_length_le (by simp)
  unfold unpackItems notIterableAtAll
  refine wpAny_bind (wpAny_bind (wpAny_specialOf ht.typeIs F.slot_tuple_iter.lookup (wpAny_pure ?_)))
  simp only [Bool.false_eq_true, if_false]
  refine wpAny_bind (wpAny_holding (wpAny_pyIter_tuple ht (wpAny_bind (wpAny_holding (wpAny_draw_tuple (Nat.ne_of_lt lt) items.size 0 _ _ ⟨_, Heap.get?_push_size _ rfl, rfl, rfl⟩ (ht.push _) (by omega) fun h1 it1 same => ?_)))))
  rw [all, if_neg (by simp)]
  have far := fun b o hb e => same.extBut b o hb (Heap.get?_push_of_some _ e)
  refine wpAny_bind (wpAny_holding (pyNext_tuple_end_hot (hot.keep fun o e => far x1 o nx e) nx it1 ((ht.push _).extBut same.extBut (Nat.ne_of_lt lt)) (by simp) fun h2 k2 => ?_))
  simp only [Option.isSome_none, Bool.false_eq_true, if_false]
  exact wpAny_pure (hQ h2 fun b o hb e => k2 b o hb (far b o hb e))
theorem assign_Tuple_hot {env : Env} {elts : List Expr} {k} {pos : Pos} {t x1 : Addr} {items : Array Value} {Q : Unit → Shared → Prop} (hot : HotAt A x1 s.heap) (ht : s.heap.IsTuple t items)
    (hn : (assignEach elts env).length = items.size) (hstar : (assignEach elts env).findIdx? (·.1) = none)
    (h : ∀ h', Heap.ExtBut s.heap.objs.size s.heap h' → wpAny (model prog w) A (assignInOrder ((assignEach elts env).map (·.2)) items.toList) Q E { s with heap := h' }) :
    wpAny (model prog w) A (assign (.Tuple elts k pos) env (.ref t)) Q E s := by
  rw [assign_Tuple]
  refine wpAny_bind (wpAny_standAt ?_)
  unfold unpack
  rw [hn, hstar]
  exact wpAny_bind (wpAny_holding (unpackItems_hot hot ht h))
end
end HotX
namespace L2H
open PySem PySem.Spec PyProof.Rows L2 HotX
theorem pg_tupH {X : Cx} {es : List Expr} {k : Nat} {t : TGs} {n : Nat} {pos : Pos} (hc : HotC X) (h : PGs X es t)
    (hn : (assignEach es X.env).length = n := by rfl) (hst : (assignEach es X.env).findIdx? (·.1) = none := by rfl) : PG X (.Tuple es k pos) (gTup X.K n t) := ⟨fun pins s σ H v u Q I r ⟨a, xs, ev, hq, hl, hw⟩ => by
  subst ev
  cases r
  obtain ⟨its, rv, ht, _⟩ := I.tuple hq
  have ht : s.heap.IsTuple a its.toArray := ht
  obtain ⟨x1, hot⟩ := hc.at I
  exact assign_Tuple_hot hot ht (by simp [hn, ← hl, rv.length]) hst fun h' hx => h.run pins _ σ H xs _ Q (I.kept (t' := s.toks) fun b o e => hx b o (Nat.ne_of_lt (Heap.lt_size e)) e) (by simpa using rv) hw⟩
end L2H

/-! Part 41: data logic within an except suite. -/
namespace DL
open PySem PySem.Spec PyProof.Rows L2 L2H
section
variable {X : Cx} {r r1 r2 : List Slot} {e a b c it elt : Expr} {es ts ifs : List Expr} {pos p px py : Pos} {d d1 d2 : D} {ds xs ys : List D} {ns : List Int} {n : Int} {x y : Str} {st : Stmt} {rest body : List Stmt} {N M : List Slot → Prop} {R : Slot → List Slot → Prop} {α : Type} [Inhabited α] {fa : α → D} {as : List α} {hp0 : Addr × Obj}
theorem gq_tH {k : Nat} (h : GsQ X r ts ds r1) (hc : HotC X) (hn : (assignEach ts X.env).length = ds.length := by rfl) (hst : (assignEach ts X.env).findIdx? (·.1) = none := by rfl) : GQ X r (.Tuple ts k px) (.tup ds) r1 := fun F G t H v A k Q q => by
  cases k with
  | tup h1 h2 => exact oG (pg_tupH hc cGs hn hst) ⟨_, _, rfl, SqT.of (A.gh _ _ h1), h2.len, h F G t H _ A h2 Q q⟩
theorem s1_forEH (hot : HotC X) {fpos : Pos} {kt : Nat} {tpos : Pos} (B : Bi X.mg) (I J : Nat → List Slot) (ha : PP X r it (.lst ds)) (h0 : Le r (I 0)) (hg : ∀ (k : Nat) (d : D), ds[k]? = some d → GQ X (I k) (.Tuple ts kt tpos) (.tup [.int k, d]) (J k)) (hb : ∀ (k : Nat) (d : D), ds[k]? = some d → HS X (J k) body (fun r' => Le r' (I (k + 1))) R) (m : M (I ds.length))
    (hp : PassesOwn (model X.prog X.w) X.A X.env X.xe := by exact PassesOwn.never) (hgl : Gl X "enumerate" := by rfl) (hs : starEach [it] X.env = [(false, eval it X.env)] := by rfl) (hfs : ∀ x, foldedSetIterable (.Call (.Name "enumerate" p) [it] [] pos) X.env x = pure x := by intro _; rfl) :
    S1 X r (.For (.Tuple ts kt tpos) (.Call (.Name "enumerate" p) [it] [] pos) body [] fpos) M R := fun F G t H nl A D nx q => by
  refine oS (ps_forH hp hot (pi_enumH hgl B.enum cA hs) cG cSs hfs) (aq_cons ha aq_nil hs F G t H A _ fun vs G1 H1 e1 k1 => ?_)
  cases k1 with
  | cons k1 k2 =>
    cases k2
    cases k1 with
    | @lst l vs _ h1 h2 =>
      have A1 := A.ext e1
      refine ⟨l, vs, rfl, SqL.of (A1.gh _ _ h1), fun k m t' H' => m = vs.length - k ∧ k ≤ vs.length ∧ ∃ G', Same G1 G' ∧ At X.K F G' (I k) t' H', ⟨vs.length, by simp, Nat.zero_le _, ?_⟩, ?_⟩
      · obtain ⟨G', s', A'⟩ := A1.le h0 nl
        exact ⟨G', s', A'⟩
      · rintro k m t' H' ⟨rfl, hk, G', s', A'⟩
        have hS : SqL X.K H' l vs := SqL.of (A'.gh _ _ (s' _ _ h1))
        by_cases hlt : k < vs.length
        · refine .inr ⟨⟨vs, vs[k], hS, by simp [hlt]⟩, fun t2 H2 => ∃ G2, Same G1 G2 ∧ At X.K F G2 (I (k + 1)) t2 H2, fun t2 H2 z => ⟨vs.length - (k + 1), by omega, rfl, hlt, z⟩, fun w H2 y => ?_⟩
          obtain ⟨T, w0, rfl, hT, rfl, hy⟩ := y
          have hk' := hy vs hS
          obtain ⟨d, hd, kd⟩ := h2.get' hk'
          have e2 : Ext G' H' (upd G' T (.tup [.int (k : Nat), w0])) (upd H' T (.tup [.int (k : Nat), w0])) := Ext.new A'.gh hT
          have A2 := A'.ext e2
          refine hg k d hd F _ t' _ (.ref T) A2 (.tup upd_same (.cons (.int _) (.cons (Dt.mono (s'.trans e2.g) _ _ kd) .nil))) _ fun t2 A3 => ?_
          refine hb k d hd { F with G := upd G' T (.tup [.int (k : Nat), w0]) } _ t2 _ nl A3.rebase { D with nx := _, ct := _, bk := _ } (fun r3 G3 t3 H3 l A4 => ?_) (fun s r3 v3 t3 G3 H3 hR A4 => q s r3 v3 t3 G3 H3 hR (At.unbase A3.ok A4))
          obtain ⟨G5, s5, A5⟩ := A4.le l nl
          exact ⟨G5, (s'.trans e2.g).trans A5.ok.g, At.unbase A3.ok A5⟩
        · have e : k = vs.length := by omega
          subst e
          refine .inl ⟨⟨vs, hS, Nat.le_refl _⟩, ?_⟩
          rw [h2.len] at A'
          exact nx _ G' t' H' m A'
theorem s1_forEAH (hot : HotC X) {fpos tpos : Pos} {cpos : Pos} {kt : Nat} (B : Bi X.mg) (i j : Nat) {s s2 : Nat → Slot} (nd : X.N.Nodup) (I : Nat → List Slot) (ha : PP X r it (.lst (as.map fa))) (h0 : Le r (I 0)) (hb : ∀ (k : Nat) (z : α), as[k]? = some z → HS X (((I k).set i (.d (.int k))).set j (.d (fa z))) body (fun r' => Le r' (I (k + 1))) R) (m : M (I as.length))
    (hij : i ≠ j := by decide) (hr : ∀ k, (I k)[i]? = some (s k) := by intro _; rfl) (hr2 : ∀ k, (I k)[j]? = some (s2 k) := by intro _; rfl) (hN : X.N[i]? = some x := by rfl) (hx : Loc X.env.scope x := by first | exact Or.inl rfl | exact Or.inr rfl) (hf : X.fn x = true ∨ X.env.scope.names.lookup x = some .local := by first | exact .inl rfl | exact .inr rfl)
    (hN2 : X.N[j]? = some y := by rfl) (hx2 : Loc X.env.scope y := by first | exact Or.inl rfl | exact Or.inr rfl) (hf2 : X.fn y = true ∨ X.env.scope.names.lookup y = some .local := by first | exact .inl rfl | exact .inr rfl)
    (hs1 : (assignEach [.Name x px, .Name y py] X.env).map (·.2) = assign (.Name x px) X.env :: (assignEach [.Name y py] X.env).map (·.2) := by rfl) (hs2 : (assignEach [.Name y py] X.env).map (·.2) = assign (.Name y py) X.env :: (assignEach [] X.env).map (·.2) := by rfl) (hal : (assignEach [.Name x px, .Name y py] X.env).length = 2 := by rfl) (hst : (assignEach [.Name x px, .Name y py] X.env).findIdx? (·.1) = none := by rfl)
    (hp : PassesOwn (model X.prog X.w) X.A X.env X.xe := by exact PassesOwn.never) (hgl : Gl X "enumerate" := by rfl) (hs : starEach [it] X.env = [(false, eval it X.env)] := by rfl) (hfs : ∀ x, foldedSetIterable (.Call (.Name "enumerate" p) [it] [] cpos) X.env x = pure x := by intro _; rfl) :
    S1 X r (.For (.Tuple [.Name x px, .Name y py] kt tpos) (.Call (.Name "enumerate" p) [it] [] cpos) body [] fpos) M R :=
  s1_forEH hot B I (fun k => ((I k).set i (.d (.int k))).set j (.d (fa (as.getD k default)))) ha h0 (fun k d hd => by
    obtain ⟨z, hz, rfl⟩ := lists_get hd
    rw [getD_at hz]
    exact gq_tH (gqs_cons (gq_n i nd (hr k) hN hx hf) (gqs_cons (gq_n j nd (by rw [List.getElem?_set_ne hij]; exact hr2 k) hN2 hx2 hf2) gqs_nil hs2) hs1) hot hal hst) (fun k d hd => by
    obtain ⟨z, hz, rfl⟩ := lists_get hd
    rw [getD_at hz]
    exact hb k z hz) (by rw [List.length_map]; exact m) hp hgl hs hfs
/-- a comprehension's context that bears the handled one -/
abbrev BlkH (X : Cx) (hp0 : Addr × Obj) (scope : Scope) (s : Shared) (H : Hp) (C : Addr) (cl : List (Str × Addr)) (fp : List Addr) : Cx := X.blkH hp0 s H scope (compEnvC scope cl C X.env) fp
def bEH (X : Cx) (hp0 : Addr × Obj) (scope : Scope) (e : Expr) : TE := fun t H Q => ∀ s H' C cl fp, tE (BlkH X hp0 scope s H' C cl fp) e t H Q
abbrev BlkNH (X : Cx) (hp0 : Addr × Obj) (scope : Scope) (x : Str) (px : Pos) (j : Nat) : Prop := ∀ (s : Shared) (H : Hp) (C : Addr) (cl : List (Str × Addr)) (fp : List Addr), PG (BlkH X hp0 scope s H C cl fp) (.Name x px) (gName j)
theorem be_ofH {scope : Scope} : ∀ (s : Shared) (H : Hp) (C : Addr) (cl : List (Str × Addr)) (fp : List Addr), PE (X.blkH hp0 s H scope (compEnvC scope cl C X.env) fp) elt (bEH X hp0 scope elt) := fun s H C cl fp => ⟨fun pins s' _ _ _ I h => cE.run pins s' _ _ _ I (h s H C cl fp)⟩
theorem cw_turnH {scope : Scope} {F : Fr} {G1 : Hp} {t : L2.St} {H1 H' : Hp} {g : Nat → D} {L : Addr} {k j : Nat} {s : Slot} {v : V} (A : At X.K F G1 r t H1) (hr : r[j]? = some s) (hL : H1 L = none) (c : Cw X.K G1 H1 (fun _ => true) g L k H') (hk : k < sizeLine)
    (kd : ∀ G', Ext G1 H1 G' H' → Dt X.K G' v d) (he : ∀ s H C cl fp, PP (BlkH X hp0 scope s H C cl fp) (r.set j (.d d)) elt (g k)) :
    gName j v (wipe t [j]) H' fun t2 H2 => wipe t2 [j] = wipe t [j] ∧ tYes t2 H2 fun b H3 => if b = true then bEH X hp0 scope elt t2 H3 fun y H4 => ∃ acc, H4 L = some (.lst acc) ∧ acc.length < sizeLine ∧ Cw X.K G1 H1 (fun _ => true) g L (k + 1) (upd H4 L (.lst (acc ++ [y]))) else Cw X.K G1 H1 (fun _ => true) g L (k + 1) H3 := by
  obtain ⟨G', vs, e, gl, hl, da⟩ := c
  have A' := A.ext e
  refine ⟨wipe1, ?_⟩
  show bEH X hp0 scope elt _ H' _
  refine fun s0 H0 C cl fp => he s0 H0 C cl fp F G' _ H' (A'.in1 hr (kd G' e)) _ fun y G4 H4 e4 ky => ?_
  have e5 := e.trans e4
  have hl4 : H4 L = some (.lst vs) := e4.h _ _ hl
  have gl4 : G4 L = none := e4.nw L (by rw [hl]; exact fun z => by cases z) gl
  refine ⟨vs, hl4, ?_, G4, vs ++ [y], ⟨e5.g, fun a o q => ?_, fun a o q => ?_, e5.nw⟩, gl4, upd_same, ?_⟩
  · rw [da.len]
    exact Nat.lt_of_le_of_lt (madeD_len _ g k) hk
  · rw [upd_ne (ne_of_none q gl4)]; exact e5.gh a o q
  · rw [upd_ne (ne_of_none q hL)]; exact e5.h a o q
  · rw [madeD_yes rfl]
    exact (DtAll.mono e4.g _ _ da).app (.cons ky .nil)
theorem lcLH {scope : Scope} {j : Nat} {s : Slot} {Q : VK} {F : Fr} {G : Hp} {t : L2.St} {H : Hp} (A : At X.K F G r t H) (hr : r[j]? = some s) (g : Nat → D) (ha : PP X r a (.lst ds)) (hn : ds.length ≤ sizeLine)
    (he : ∀ (k : Nat) (d : D), ds[k]? = some d → ∀ s H C cl fp, PP (BlkH X hp0 scope s H C cl fp) (r.set j (.d d)) elt (g k))
    (q : ∀ p vs G' H', Ext G H G' H' → H p = none → G' p = none → H' p = some (.lst vs) → DtAll X.K G' vs (madeD (fun _ => true) g ds.length) → Q (.ref p) H') :
    tLc (iList X.K (tE X a)) (gName j) tYes (bEH X hp0 scope elt) [j] t H Q := by
  refine ha F G t H A _ fun v G1 H1 e1 k1 => ?_
  cases k1 with
  | @lst l vs _ h1 h2 =>
    have A1 := A.ext e1
    have hS := A1.gh _ _ h1
    refine ⟨l, rfl, ⟨vs, SqL.of hS⟩, fun L hL => lc_list (xs := vs) (Cw X.K G1 H1 (fun _ => true) g L) (cw_start A1.gh hL) (fun k H' _ c => by obtain ⟨_, _, e, _⟩ := c; exact SqL.of (e.h _ _ hS)) (fun k w H' hk c => ?_) fun H' c => cw_end e1 hL (by rw [h2.len] at c; exact c) q⟩
    obtain ⟨d, hd, kd⟩ := h2.get' hk
    have hlt : k < ds.length := (List.getElem?_eq_some_iff.mp hd).1
    exact cw_turnH (d := d) A1 hr hL c (by omega) (fun G' e => Dt.mono e.g _ _ kd) (he k d hd)
theorem lcTH {scope : Scope} {j : Nat} {s : Slot} {Q : VK} {F : Fr} {G : Hp} {t : L2.St} {H : Hp} (A : At X.K F G r t H) (hr : r[j]? = some s) (g : Nat → D) (ha : PP X r a (.tup ds)) (hn : ds.length ≤ sizeLine)
    (he : ∀ (k : Nat) (d : D), ds[k]? = some d → ∀ s H C cl fp, PP (BlkH X hp0 scope s H C cl fp) (r.set j (.d d)) elt (g k))
    (q : ∀ p vs G' H', Ext G H G' H' → H p = none → G' p = none → H' p = some (.lst vs) → DtAll X.K G' vs (madeD (fun _ => true) g ds.length) → Q (.ref p) H') :
    tLc (iTup X.K (tE X a)) (gName j) tYes (bEH X hp0 scope elt) [j] t H Q := by
  refine ha F G t H A _ fun v G1 H1 e1 k1 => ?_
  cases k1 with
  | @tup l vs _ h1 h2 =>
    have A1 := A.ext e1
    have hS := A1.gh _ _ h1
    refine ⟨l, rfl, ⟨vs, SqT.of hS⟩, fun L hL => lc_tup (xs := vs) (Cw X.K G1 H1 (fun _ => true) g L) (cw_start A1.gh hL) (fun k H' _ c => by obtain ⟨_, _, e, _⟩ := c; exact SqT.of (e.h _ _ hS)) (fun k w H' hk c => ?_) fun H' c => cw_end e1 hL (by rw [h2.len] at c; exact c) q⟩
    obtain ⟨d, hd, kd⟩ := h2.get' hk
    have hlt : k < ds.length := (List.getElem?_eq_some_iff.mp hd).1
    exact cw_turnH (d := d) A1 hr hL c (by omega) (fun G' e => Dt.mono e.g _ _ kd) (he k d hd)
theorem po_lcLH (hot : Hot1 X.A hp0) (hm : hp0 ∈ X.pn) {scope : Scope} {cpos : Pos} (j : Nat) {s : Slot} (nd : X.N.Nodup) (g : Nat → D) (ha : PP X r a (.lst ds)) (hn : ds.length ≤ sizeLine) (he : ∀ (k : Nat) (d : D), ds[k]? = some d → ∀ s H C cl fp, PP (BlkH X hp0 scope s H C cl fp) (r.set j (.d (d))) elt (g k))
    (ok : BlkOk X.N X.env.scope scope [(x, j)] := by exact blkOk_by (by kernel_rfl)) (hb : BlkNH X hp0 scope x px j := by first | exact fun _ _ _ _ _ => pg_name (by assumption) rfl (Or.inl rfl) | exact fun _ _ _ _ _ => pg_name (by assumption) rfl (Or.inr rfl)) (hr : r[j]? = some s := by rfl) (hfs : ∀ x, foldedSetIterable (a) X.env x = pure x := by intro _; rfl) :
    PO X r (.ListComp elt [⟨.Name x px, a, [], 0⟩] scope pos) (madeD (fun _ => true) g ds.length) := fun F G t H A Q q =>
  oE (pe_lcH (te := bEH X hp0 scope elt) hot hm nd (pi_listH cE) ok hb be_ofH hfs) (lcLH A hr g ha hn he q)
theorem po_lcTH (hot : Hot1 X.A hp0) (hm : hp0 ∈ X.pn) {scope : Scope} {cpos : Pos} (j : Nat) {s : Slot} (nd : X.N.Nodup) (g : Nat → D) (ha : PP X r a (.tup ds)) (hn : ds.length ≤ sizeLine) (he : ∀ (k : Nat) (d : D), ds[k]? = some d → ∀ s H C cl fp, PP (BlkH X hp0 scope s H C cl fp) (r.set j (.d (d))) elt (g k))
    (ok : BlkOk X.N X.env.scope scope [(x, j)] := by exact blkOk_by (by kernel_rfl)) (hb : BlkNH X hp0 scope x px j := by first | exact fun _ _ _ _ _ => pg_name (by assumption) rfl (Or.inl rfl) | exact fun _ _ _ _ _ => pg_name (by assumption) rfl (Or.inr rfl)) (hr : r[j]? = some s := by rfl) (hfs : ∀ x, foldedSetIterable (a) X.env x = pure x := by intro _; rfl) :
    PO X r (.ListComp elt [⟨.Name x px, a, [], 0⟩] scope pos) (madeD (fun _ => true) g ds.length) := fun F G t H A Q q =>
  oE (pe_lcH (te := bEH X hp0 scope elt) hot hm nd (pi_tupH cE) ok hb be_ofH hfs) (lcTH A hr g ha hn he q)
theorem po_AH (hot : Hot1 X.A hp0) (hm : hp0 ∈ X.pn) {scope : Scope} (j : Nat) {s : Slot} (nd : X.N.Nodup) (g : α → D) (ha : PP X r a (.lst (as.map fa))) (hn : as.length ≤ sizeLine) (he : ∀ z, z ∈ as → ∀ s H C cl fp, PP (BlkH X hp0 scope s H C cl fp) (r.set j (.d (fa z))) elt (g z))
    (ok : BlkOk X.N X.env.scope scope [(x, j)] := by exact blkOk_by (by kernel_rfl)) (hb : BlkNH X hp0 scope x px j := by first | exact fun _ _ _ _ _ => pg_name (by assumption) rfl (Or.inl rfl) | exact fun _ _ _ _ _ => pg_name (by assumption) rfl (Or.inr rfl)) (hr : r[j]? = some s := by rfl) (hfs : ∀ x, foldedSetIterable a X.env x = pure x := by intro _; rfl) :
    PO X r (.ListComp elt [⟨.Name x px, a, [], 0⟩] scope pos) (as.map g) :=
  po_is (po_lcLH hot hm (cpos := pos) j nd (fun k => g (as.getD k default)) ha (by rw [List.length_map]; exact hn) (fun k d hd => by
    obtain ⟨z, hz, rfl⟩ := lists_get hd
    rw [getD_at hz]
    exact he z (List.mem_of_getElem? hz)) ok hb hr hfs) (by rw [List.length_map]; exact madeD_by g as)
theorem po_TAH (hot : Hot1 X.A hp0) (hm : hp0 ∈ X.pn) {scope : Scope} (j : Nat) {s : Slot} (nd : X.N.Nodup) (g : α → D) (ha : PP X r a (.tup ds)) (hds : ds = as.map fa) (hn : as.length ≤ sizeLine) (he : ∀ z, z ∈ as → ∀ s H C cl fp, PP (BlkH X hp0 scope s H C cl fp) (r.set j (.d (fa z))) elt (g z))
    (ok : BlkOk X.N X.env.scope scope [(x, j)] := by exact blkOk_by (by kernel_rfl)) (hb : BlkNH X hp0 scope x px j := by first | exact fun _ _ _ _ _ => pg_name (by assumption) rfl (Or.inl rfl) | exact fun _ _ _ _ _ => pg_name (by assumption) rfl (Or.inr rfl)) (hr : r[j]? = some s := by rfl) (hfs : ∀ x, foldedSetIterable a X.env x = pure x := by intro _; rfl) :
    PO X r (.ListComp elt [⟨.Name x px, a, [], 0⟩] scope pos) (as.map g) := by
  subst hds
  exact po_is (po_lcTH hot hm (cpos := pos) j nd (fun k => g (as.getD k default)) ha (by rw [List.length_map]; exact hn) (fun k d hd => by
    obtain ⟨z, hz, rfl⟩ := lists_get hd
    rw [getD_at hz]
    exact he z (List.mem_of_getElem? hz)) ok hb hr hfs) (by rw [List.length_map]; exact madeD_by g as)
end
end DL

/-! Part 42: defs called within an except suite. -/
namespace DL
open PySem PySem.Spec PyProof.Rows L2 L2H
section
variable {P : Program} {w : World} {K : PySem.W.Frag} {mg : Str → Option Value} {base : Heap}
/-- the context of a def's body that is called within an except suite and lets nothing out -/
abbrev cxh (P : Program) (w : World) (K : PySem.W.Frag) (mg : Str → Option Value) (base : Heap) (N : List Str) (qual : Str) (sc : Scope) (f : Addr) (cdv : Value) (A : Around) (outer : List Env) (s : Shared) (H : Hp) (E : XK) (p : Addr × Obj) : Cx := ({ cxOf CX0 P w K mg base N qual sc f cdv A outer s H E with calm := false, pn := [p] } : Cx).nox
theorem fn_bodyH {qual : Str} {sc : Scope} {f : Addr} {N : List Str} {body : List Stmt} {k : Nat} {C : Ct}
    (hb : ∀ ds s, C ds s → ∀ cdv A outer s0 H E p, Hot1 (A.deeper (envOfC qual sc s0.heap.objs.size f cdv)) p → RoomH k (A.deeper (envOfC qual sc s0.heap.objs.size f cdv)) →
      HS (cxh P w K mg base N qual sc f cdv A outer s0 H E p) (entry N ds) body (fun _ => s = .d .non) (fun s' _ => s' = s))
    (cdv : Value) (A : Around) (outer : List Env) (s : Shared) (H : Hp) (vs : List V) (Q : VK) (E : XK) (p : Addr × Obj) (hot : Hot1 A p) (hr : RoomH k (A.deeper (envOfC qual sc s.heap.objs.size f cdv))) (h : spC K C vs H Q E) :
    ∃ t, PSs (cxH CX0 P w K mg base N qual sc f cdv A outer s H E p) body t ∧ t { nx := fun _ H' => Q .non H', rt := Q } (L2.start N vs) H := by
  obtain ⟨G, ds, sl, gh, da, c, q⟩ := h
  refine ⟨_, PSs.nox (X := cxH CX0 P w K mg base N qual sc f cdv A outer s H E p) cSs, hb ds sl c cdv A outer s H E p hot hr ⟨[], G, H⟩ G (L2.start N vs) H rfl ?_ _ (fun r' G' t' H' e A' => ?_) fun s' r' v t' G' H' e A' => ?_⟩
  · refine ⟨⟨Same.refl G, gh, fun _ _ q _ => q, fun _ _ q => q, fun _ z => by cases z⟩, [], ?_, by simp, fun a ha => by cases ha⟩
    unfold L2.start entry
    rw [da.len]
    exact slots_start _ da
  · subst e
    exact q .non H' ⟨r', t', G', A'.front .non⟩
  · subst e
    exact q v H' ⟨r', t', G', A'⟩
theorem spC_len {C : Ct} {ps : List Str} (hl : ∀ ds s, C ds s → ds.length = ps.length) : ∀ vs H Q E, spC K C vs H Q E → vs.length = ps.length := fun vs H Q E h => by
  obtain ⟨G, ds, sl, gh, da, c, q⟩ := h
  rw [da.len]
  exact hl ds sl c
/-- a name that keeps a contract within an except suite -/
structure HasH (P : Program) (w : World) (K : PySem.W.Frag) (mg : Str → Option Value) (base : Heap) (k : Nat) (x : Str) (dD : List D) (C : Ct) : Prop where
  ex : ∃ f fd ps dvals dvs, FnH P w K mg base CX0 k f fd ps (spC K C) ∧ mg x = some (.ref f) ∧ PySem.W.keepIn K (.ref f) = true ∧ Binds K fd ps dvals ∧ Vals dvs dvals ∧ ∀ G, DtAll K G dvs dD
theorem FnH.mono {CX : CXT} {j k : Nat} {f : Addr} {fd : FuncData} {ps : List Str} {sp : Sp} (F : FnH P w K mg base CX j f fd ps sp) (l : j ≤ k) : FnH P w K mg base CX k f fd ps sp := ⟨F.len, fun A outer s H args us vs Q E p hr => F.run A outer s H args us vs Q E p (hr.mono l)⟩
theorem HasH.mono {j k : Nat} {x : Str} {dD : List D} {C : Ct} (h : HasH P w K mg base j x dD C) (l : j ≤ k) : HasH P w K mg base k x dD C := by
  obtain ⟨f, fd, ps, dvals, dvs, F, r⟩ := h
  exact ⟨f, fd, ps, dvals, dvs, FnH.mono F l, r⟩
theorem has_defH {x : Str} {st : Stmt} {ps N : List Str} {k : Nat} {C : Ct} (T : Df K mg x st ps) (S : FnScope N ps (defScope st)) (hl : ∀ ds s, C ds s → ds.length = ps.length)
    (hb : ∀ ds s, C ds s → ∀ f cdv A outer s0 H E p, Hot1 (A.deeper (envOfC x (defScope st) s0.heap.objs.size f cdv)) p → RoomH k (A.deeper (envOfC x (defScope st) s0.heap.objs.size f cdv)) →
      HS (cxh P w K mg base N x (defScope st) f cdv A outer s0 H E p) (entry N ds) (defBody st) (fun _ => s = .d .non) (fun s' _ => s' = s)) : HasH P w K mg base (k + 1) x [] C := by
  obtain ⟨f, fd, F, hm, b⟩ := T
  obtain ⟨oc, od, kV, doc, pm, an, cdv, ct, osl, rfl, lk, hcd⟩ := F.ex
  exact ⟨f, _, ps, [], [], fn_ofH lk hcd S (spC_len hl) fun A outer s H vs Q E p hot hr hsp => fn_bodyH (fun ds s c => hb ds s c f) cdv A outer s H vs Q E p hot hr hsp, hm, F.kp, b, .nil, fun _ => .nil⟩
theorem has_defDH {x : Str} {st : Stmt} {ps N : List Str} {k : Nat} {C : Ct} {dvs : List V} {dD : List D} (T : DfD K mg x st ps dvs dD) (S : FnScope N ps (defScope st)) (hl : ∀ ds s, C ds s → ds.length = ps.length)
    (hb : ∀ ds s, C ds s → ∀ f cdv A outer s0 H E p, Hot1 (A.deeper (envOfC x (defScope st) s0.heap.objs.size f cdv)) p → RoomH k (A.deeper (envOfC x (defScope st) s0.heap.objs.size f cdv)) →
      HS (cxh P w K mg base N x (defScope st) f cdv A outer s0 H E p) (entry N ds) (defBody st) (fun _ => s = .d .non) (fun s' _ => s' = s)) : HasH P w K mg base (k + 1) x dD C := by
  obtain ⟨f, fd, dvals, F, hm, b, v, da, b0⟩ := T
  obtain ⟨oc, od, dV, kV, doc, pm, an, cdv, ct, osl, rfl, lk, hcd, _, _⟩ := F.ex
  exact ⟨f, _, ps, dvals, dvs, fn_ofH lk hcd S (spC_len hl) fun A outer s H vs Q E p hot hr hsp => fn_bodyH (fun ds s c => hb ds s c f) cdv A outer s H vs Q E p hot hr hsp, hm, F.kp, b, v, da⟩
structure HasMH (P : Program) (w : World) (K : PySem.W.Frag) (mg : Str → Option Value) (base : Heap) (k : Nat) (C : Addr) (m : Str) (Ct0 : Ct) : Prop where
  ex : ∃ f fd ps, Cls K C ∧ Meth K C m f ∧ FnH P w K mg base CX0 k f fd ps (spC K Ct0) ∧ Binds K fd ps []
theorem HasMH.mono {j k : Nat} {C : Addr} {m : Str} {Ct0 : Ct} (h : HasMH P w K mg base j C m Ct0) (l : j ≤ k) : HasMH P w K mg base k C m Ct0 := by
  obtain ⟨f, fd, ps, c, mt, F, b⟩ := h
  exact ⟨f, fd, ps, c, mt, FnH.mono F l, b⟩
theorem has_methH {C : Addr} {m q : Str} {st : Stmt} {ps N : List Str} {k : Nat} {Ct0 : Ct} (T : Dm K C m q st ps) (S : FnScope N ps (defScope st)) (hl : ∀ ds s, Ct0 ds s → ds.length = ps.length)
    (hb : ∀ ds s, Ct0 ds s → ∀ f cdv A outer s0 H E p, Hot1 (A.deeper (envOfC q (defScope st) s0.heap.objs.size f cdv)) p → RoomH k (A.deeper (envOfC q (defScope st) s0.heap.objs.size f cdv)) →
      HS (cxh P w K mg base N q (defScope st) f cdv A outer s0 H E p) (entry N ds) (defBody st) (fun _ => s = .d .non) (fun s' _ => s' = s)) : HasMH P w K mg base (k + 1) C m Ct0 := by
  obtain ⟨f, fd, F, c, mt, b⟩ := T
  obtain ⟨oc, od, kV, doc, pm, an, cdv, ct, osl, rfl, lk, hcd⟩ := F.ex
  exact ⟨f, _, ps, c, mt, fn_ofH lk hcd S (spC_len hl) fun A outer s H vs Q E p hot hr hsp => fn_bodyH (fun ds s c => hb ds s c f) cdv A outer s H vs Q E p hot hr hsp, b⟩
end
section
variable {X : Cx} {r r1 r2 : List Slot} {e a b c : Expr} {es : List Expr} {pos p px apos : Pos} {d d1 d2 : D} {ds xs ys dD os : List D} {x m : Str} {k : Nat} {C : Ct} {CA : Addr} {ns : List Str} {fs : List (Str × Fld)}
theorem RoomH.units {k : Nat} {A : Around} (r : RoomH k A) : A.units + 64 < cLine := by have := r.un; omega
/-- what a call hands on, defaults filled in -/
theorem run_hot {pins : List (Addr × Obj)} {σ : L2.St} {H : Hp} {s : Shared} {Q : VK} {f : Addr} {fd : FuncData} {ps : List Str} {sp : Sp} {us dvals : List Value} {vs dvs : List V} {E : XK} (F : FnH X.prog X.w X.K X.mg X.base CX0 k f fd ps sp) (hr : RoomH k X.A) (hc : HotC X) (hb : Binds X.K fd ps dvals) (hv : Vals dvs dvals)
    (I : Inv X pins σ H s) (r : Vals vs us) (h : sp (vs ++ dvs) H Q E) : wpAny (model X.prog X.w) X.A (call (.ref f) us) (EP X pins σ Q) X.xe s := by
  obtain ⟨p, hot, hp⟩ := hc
  have r2 : Vals (vs ++ dvs) (us ++ dvals) := r.append hv
  have hl : (us ++ dvals).length = ps.length := by rw [← r2.length]; exact F.len _ _ _ _ h
  have P1 := I.pin p (List.mem_append_left _ hp)
  have hpin : PinOk X.stack H s p := ⟨P1.1, P1.2.1, fun hm => (List.mem_cons.mp (I.stkSub p.1 hm)).elim P1.2.2.1 P1.2.2.2.1, P1.2.2.2.2⟩
  refine wpAny_call (codeAny_mono (F.run X.A X.stack s H ⟨us, []⟩ (us ++ dvals) (vs ++ dvs) Q E p hr hot hpin I.env0 (hb s us I.kIn hl) r2 h) fun r s' hq => ?_)
  cases r with
  | error e => exact False.elim hq
  | ok fl =>
    cases fl with
    | ret u => exact I.after hq
    | next => exact False.elim hq
    | brk => exact False.elim hq
    | cont => exact False.elim hq
theorem call_ofH (h : HasH X.prog X.w X.K X.mg X.base k x dD C) (hr : RoomH k X.A) (hc : HotC X) (hg : Gl X x) (hdb : (x == ("__debug__" : Str)) = false) (he : starEach (e :: es) X.env = (false, eval e X.env) :: starEach es X.env) (hpl : (backTo pos (starEach es X.env)).any (·.1) = false) :
    ∃ dvs, (∀ G, DtAll X.K G dvs dD) ∧ PE X (.Call (.Name x p) (e :: es) [] pos) (tCall (spC X.K C) dvs E0 (tAr X (e :: es))) := by
  obtain ⟨f, fd, ps, dvals, dvs, F, hm, kp, b, v, da⟩ := h
  refine ⟨dvs, da, ⟨fun pins s σ H Q I h => ?_⟩⟩
  refine wpAny_Call_Name_kw (ld_glob I hg hm ?_ hdb)
  refine PySem.W.callWith_K (h₀ := X.base) I.ok.mod.kin kp (thn (cA.run pos pins s σ H _ I h) fun us s1 ⟨vs, H1, I1, r1, q⟩ => ⟨I1.kIn, ?_⟩) he hpl
  exact run_hot F hr hc b v I1 r1 q
theorem pb_callH (h : HasH X.prog X.w X.K X.mg X.base k x dD C) (hr : RoomH k X.A) (hot : HotC X) (ha : AB X r (e :: es) ds) (hc : C (ds ++ dD) (.d d)) (hg : Gl X x := by rfl) (hdb : (x == ("__debug__" : Str)) = false := by decide)
    (he : starEach (e :: es) X.env = (false, eval e X.env) :: starEach es X.env := by rfl) (hpl : (backTo pos (starEach es X.env)).any (·.1) = false := by rfl) : PB X r (.Call (.Name x p) (e :: es) [] pos) d := fun F G t H A Q q => by
  obtain ⟨dvs, da, pe⟩ := call_ofH h hr hot hg hdb he hpl
  refine oE pe (ha F G t H A _ fun vs G1 H1 e1 k1 => ⟨H1, ds ++ dD, .d d, Same.refl H1, k1.app (da H1), hc, fun v H' ret => ?_⟩)
  obtain ⟨G', e2, k2⟩ := ret.ext
  exact q v G1 H' ⟨e1.g, e1.gh.trans e2.h, e1.h.trans e2.h, e1.nw⟩ (Dt.mono e2.gh _ _ k2)
theorem pp_callH (h : HasH X.prog X.w X.K X.mg X.base k x dD C) (hr : RoomH k X.A) (hot : HotC X) (ha : AQ X r (e :: es) ds) (hc : C (ds ++ dD) (.d d)) (hg : Gl X x := by rfl) (hdb : (x == ("__debug__" : Str)) = false := by decide)
    (he : starEach (e :: es) X.env = (false, eval e X.env) :: starEach es X.env := by rfl) (hpl : (backTo pos (starEach es X.env)).any (·.1) = false := by rfl) : PP X r (.Call (.Name x p) (e :: es) [] pos) d := fun F G t H A Q q => by
  obtain ⟨dvs, da, pe⟩ := call_ofH h hr hot hg hdb he hpl
  refine oE pe (ha F G t H A _ fun vs G1 H1 e1 k1 => ⟨G1, ds ++ dD, .d d, e1.gh, k1.app (da G1), hc, fun v H' ret => ?_⟩)
  obtain ⟨G', e2, k2⟩ := ret.ext
  exact q v G' H' (e1.trans e2) k2
theorem pn_callBH {qa : Option Addr} (h : HasH X.prog X.w X.K X.mg X.base k x dD C) (hr : RoomH k X.A) (hot : HotC X) (ha : AB X r (e :: es) ds) (hc : C (ds ++ dD) (.ob qa CA fs)) (sc : ∀ z, z ∈ fs → ScF z.2) (hg : Gl X x := by rfl) (hdb : (x == ("__debug__" : Str)) = false := by decide)
    (he : starEach (e :: es) X.env = (false, eval e X.env) :: starEach es X.env := by rfl) (hpl : (backTo pos (starEach es X.env)).any (·.1) = false := by rfl) : PN X r (.Call (.Name x p) (e :: es) [] pos) CA fs := fun F G t H A Q q => by
  obtain ⟨dvs, da, pe⟩ := call_ofH h hr hot hg hdb he hpl
  refine oE pe (ha F G t H A _ fun vs G1 H1 e1 k1 => ⟨H1, ds ++ dD, _, Same.refl H1, k1.app (da H1), hc, fun v H' ret => ?_⟩)
  obtain ⟨p, dx, vs, fps, G', rfl, e2, h', fk, nd, n⟩ := ret.extN
  exact q p dx vs fps G1 H' ⟨e1.g, e1.gh.trans e2.h, e1.h.trans e2.h, e1.nw⟩ h' (fk.sc sc) nd fun a ha => ⟨e1.h.free (n a ha).1, e1.gh.free (n a ha).1⟩
theorem tmeth0_hot {pl : Sem Bool} {ta : TE} (he : PE X a ta) {Ct0 : Ct} (h : HasMH X.prog X.w X.K X.mg X.base k CA m Ct0) (hr : RoomH k X.A) (hc : HotC X)
    (ht : eval (.Call (.Attribute a m apos) [] [] pos) X.env = (do
      let ov ← eval a X.env
      standAt apos.atName
      let (f, first) ← holding [ov] (getMethod ov m pl)
      callWith pos f first (backTo pos (starEach [] X.env)) (backToKw pos (keywordEach [] X.env))) := by rfl) : PE X (.Call (.Attribute a m apos) [] [] pos) (tMeth CA m (spC X.K Ct0) [] E0 ta tNil) := by
  obtain ⟨f, fd, ps, c, mt, Fn, b⟩ := h
  refine ⟨fun pins s σ H Q I h => ?_⟩
  refine PySem.W.methodCall_KW (pl := pl) (thn (he.run pins s σ H _ I h) fun u s1 ⟨x, H1, I1, rx, a, dx, fs, ex, ea, l, q⟩ => ?_) ht
  subst ex
  obtain rfl : u = Value.ref a := rx
  refine getmeth_ok I1 ea c mt l ?_
  exact PySem.W.callWith_K0 (first := [.ref a]) I1.kIn mt.kp (run_hot (E := E0) (us := [.ref a]) (vs := [.ref a]) Fn hr hc b .nil I1 (.cons rfl .nil) q)
theorem po_meth0H {pl : Sem Bool} {Ct0 : Ct} (h : HasMH X.prog X.w X.K X.mg X.base k CA m Ct0) (hr : RoomH k X.A) (hot : HotC X) (ho : PK X r a (.ins CA ns os)) (hc : Ct0 [.ins CA ns os] (.o xs)) (nl : ∀ d, d ∈ xs → NoL d) (hn : m ∉ ns := by decide)
    (ht : eval (.Call (.Attribute a m apos) [] [] pos) X.env = (do
      let ov ← eval a X.env
      standAt apos.atName
      let (f, first) ← holding [ov] (getMethod ov m pl)
      callWith pos f first (backTo pos (starEach [] X.env)) (backToKw pos (keywordEach [] X.env))) := by rfl) : PO X r (.Call (.Attribute a m apos) [] [] pos) xs := fun F G t H A Q q => by
  refine oE (tmeth0_hot (pl := pl) cE h hr hot ht) (ho F G t H A _ fun v G1 H1 G2 e1 s2 h2 n2 k1 => ?_)
  cases k1 with
  | ins h1 i2 h3 =>
    refine ⟨_, _, _, rfl, h2 _ _ h1, look_none hn, ?_⟩
    refine ⟨G2, [.ins CA ns os], .o xs, h2, .cons (.ins h1 i2 h3) .nil, hc, fun v H' ret => ?_⟩
    obtain ⟨p, vs, G3, rfl, e3, n, g, h', k3⟩ := ret.extO
    let G4 : Hp := fun a => if G2 a ≠ none ∧ G1 a = none then none else G3 a
    have out : ∀ a, (G2 a ≠ none ∧ G1 a = none) → G4 a = none := fun a c => if_pos c
    have inn : ∀ a, ¬ (G2 a ≠ none ∧ G1 a = none) → G4 a = G3 a := fun a c => if_neg c
    refine q p vs G4 H' (e1.trans ⟨fun a o z => ?_, fun a o z => ?_, e3.h, fun a ha hg => ?_⟩) (e1.h.free n) ?_ h' (NoL.tos (fun a us z => ?_) xs vs nl k3)
    · rw [inn a fun c => by rw [c.2] at z; cases z]
      exact e3.g a o (s2 a o z)
    · by_cases c : G2 a ≠ none ∧ G1 a = none
      · rw [out a c] at z; cases z
      · rw [inn a c] at z; exact e3.gh a o z
    · by_cases c : G2 a ≠ none
      · exact out a ⟨c, hg⟩
      · rw [inn a fun z => c z.1]
        exact e3.nw a ha (Classical.byContradiction c)
    · by_cases c : G2 p ≠ none ∧ G1 p = none
      · exact out p c
      · rw [inn p c]; exact g
    · rw [inn a fun c => by
        cases w : G2 a with
        | none => exact c.1 w
        | some o =>
          have := e3.g _ _ w
          rw [z] at this
          cases this
          exact n2 a us c.2 w]
      exact z
theorem cr_eqPH {n m k : Nat} (hr : RoomH k X.A) (p1 : Pl n d1) (p2 : Pl m d2) (hn : n ≤ 64 := by decide) (hm : m ≤ 64 := by decide) : CR X .Eq d1 d2 (eqD d1 d2) :=
  ⟨_, op_eqD (RoomH.units hr), fun v1 v2 H Q k1 k2 q => ⟨_, _, Dt.dp _ _ n p1 k1, Dt.dp _ _ m p2 k2, p1.shaped hn, p2.shaped hm, q⟩⟩
/-- what a suite's context bears -/
theorem hot_suite {a : Addr} {oe : Obj} {cls : Value} {dd : Option Addr} {pn : List (Addr × Obj)} (hz : L2N.Zn cls dd oe) (hv : ∃ vs, oe.data = .fields vs) : HotC (X.suite a ((a, oe) :: pn)) := by
  obtain ⟨vs, hv⟩ := hv
  exact ⟨(a, oe), ⟨rfl, vs, hv, hz.2.2 vs hv⟩, List.mem_cons_self ..⟩
theorem hot_blk {hp0 : Addr × Obj} {scope : Scope} {s : Shared} {H : Hp} {C : Addr} {cl : List (Str × Addr)} {fp : List Addr} (hot : Hot1 X.A hp0) : HotC (BlkH X hp0 scope s H C cl fp) := ⟨hp0, hot, List.mem_cons_self ..⟩
end
end DL

/-! Part 43: raising where the error's context is known (its suite may call). -/
namespace DL
open PySem PySem.Spec PyProof.Rows L2
/-- the expression raises an error of the class c -/
def PY (X : Cx) (r : List Slot) (e : Expr) (c : Addr) : Prop := ∀ (F : Fr) (G : Hp) (t : L2.St) (H : Hp), At X.K F G r t H → ∀ (Q : VK) (W : WX), L2N.Takes X W →
  (∀ G' H', Ext G H G' H' → W (.ref c) none t H') → tE X e t H Q
/-- the statements raise an error of the class c -/
def HY (X : Cx) (r : List Slot) (sts : List Stmt) (c : Addr) (M : List Slot → Prop) : Prop := ∀ (F : Fr) (G : Hp) (t : L2.St) (H : Hp), F.L = [] → At X.K F G r t H → ∀ (D : Ends) (W : WX), L2N.Takes X W →
  (∀ r' G' t' H', M r' → At X.K F G' r' t' H' → W (.ref c) none t' H') → tSs X sts D t H
theorem fun_okY {P : Program} {w : World} {K : PySem.W.Frag} {mg : Str → Option Value} {base : Heap} {x qual : Str} {st : Stmt} {f : Addr} {fd : FuncData} {N ps : List Str} {k : Nat} {sp : Sp} (F : Fun K x qual st f fd) (S : FnScope N ps (defScope st)) (len : ∀ vs H Q E, sp vs H Q E → vs.length = ps.length)
    (hbody : ∀ (cdv : Value) (A : Around) (outer : List Env) (s : Shared) (H : Hp) (vs : List V) (Q : VK) (E : XK), Room k (A.deeper (envOfC qual (defScope st) s.heap.objs.size f cdv)) → sp vs H Q E →
      ∃ t, PSs (cxOf (L2N.CX P w) P w K mg base N qual (defScope st) f cdv A outer s H E) (defBody st) t ∧ t { nx := fun _ H' => Q .non H', rt := Q } (L2.start N vs) H) : FnOk P w K mg base (L2N.CX P w) (k + 1) f fd ps sp := by
  obtain ⟨oc, od, kV, doc, pm, an, cdv, ct, osl, rfl, lk, hcd⟩ := F.ex
  exact fn_of lk hcd S len fun A outer s H vs Q E hr hsp => hbody cdv A outer s H vs Q E hr hsp
structure HasY (P : Program) (w : World) (K : PySem.W.Frag) (mg : Str → Option Value) (base : Heap) (k : Nat) (x : Str) (dD : List D) (C : CtX) : Prop where
  ex : ∃ f fd ps dvals dvs, FnOk P w K mg base (L2N.CX P w) k f fd ps (spX K C) ∧ mg x = some (.ref f) ∧ PySem.W.keepIn K (.ref f) = true ∧ Binds K fd ps dvals ∧ Vals dvs dvals ∧ ∀ G, DtAll K G dvs dD
theorem HasY.mono {P : Program} {w : World} {K : PySem.W.Frag} {mg : Str → Option Value} {base : Heap} {j k : Nat} {x : Str} {dD : List D} {C : CtX} (h : HasY P w K mg base j x dD C) (l : j ≤ k) : HasY P w K mg base k x dD C := by
  obtain ⟨f, fd, ps, dvals, dvs, F, r⟩ := h
  exact ⟨f, fd, ps, dvals, dvs, F.mono l, r⟩
/-- the context of a def's body that may raise -/
abbrev cxY (P : Program) (w : World) (K : PySem.W.Frag) (mg : Str → Option Value) (base : Heap) (N : List Str) (qual : Str) (sc : Scope) (f : Addr) (cdv : Value) (A : Around) (outer : List Env) (s : Shared) (H : Hp) (E : XK) : Cx := cxOf (L2N.CX P w) P w K mg base N qual sc f cdv A outer s H E
section
variable {P : Program} {w : World} {K : PySem.W.Frag} {mg : Str → Option Value} {base : Heap}
theorem fny_body {qual : Str} {sc : Scope} {f : Addr} {N : List Str} {body : List Stmt} {k : Nat} {C : CtX}
    (hb : ∀ ds c, C ds c → ∀ cdv A outer s0 H E, Room k (A.deeper (envOfC qual sc s0.heap.objs.size f cdv)) → HY (cxY P w K mg base N qual sc f cdv A outer s0 H E) (entry N ds) body c (fun _ => True))
    (cdv : Value) (A : Around) (outer : List Env) (s : Shared) (H : Hp) (vs : List V) (Q : VK) (E : XK) (hr : Room k (A.deeper (envOfC qual sc s.heap.objs.size f cdv))) (h : spX K C vs H Q E) :
    ∃ t, PSs (cxY P w K mg base N qual sc f cdv A outer s H E) body t ∧ t { nx := fun _ H' => Q .non H', rt := Q } (L2.start N vs) H := by
  obtain ⟨G, ds, c, gh, da, hc, q⟩ := h
  refine ⟨_, cSs, hb ds c hc cdv A outer s H E hr ⟨[], G, H⟩ G (L2.start N vs) H rfl ?_ _ (fun cls d _ H => E cls d H) (L2N.takes_of rfl rfl rfl rfl) fun r' G' t' H' _ A' => ?_⟩
  · refine ⟨⟨Same.refl G, gh, fun _ _ q _ => q, fun _ _ q => q, fun _ z => by cases z⟩, [], ?_, by simp, fun a ha => by cases ha⟩
    unfold L2.start entry
    rw [da.len]
    exact slots_start _ da
  · exact q G' H' ⟨A'.ok.g, A'.ok.gh, fun a u z => A'.ok.h a u z (by simp), A'.ok.nw⟩
theorem has_defY {x : Str} {st : Stmt} {ps N : List Str} {k : Nat} {C : CtX} (T : Df K mg x st ps) (S : FnScope N ps (defScope st)) (hl : ∀ ds c, C ds c → ds.length = ps.length)
    (hb : ∀ ds c, C ds c → ∀ f cdv A outer s0 H E, Room k (A.deeper (envOfC x (defScope st) s0.heap.objs.size f cdv)) → HY (cxY P w K mg base N x (defScope st) f cdv A outer s0 H E) (entry N ds) (defBody st) c (fun _ => True)) : HasY P w K mg base (k + 1) x [] C := by
  obtain ⟨f, fd, F, hm, b⟩ := T
  refine ⟨f, fd, ps, [], [], fun_okY F S (fun vs H Q E h => ?_) (fny_body fun ds c hc => hb ds c hc f), hm, F.kp, b, .nil, fun _ => .nil⟩
  obtain ⟨G, ds, c, gh, da, hc, q⟩ := h
  rw [da.len]
  exact hl ds c hc
end
section
variable {X : Cx} {r r1 : List Slot} {e c0 : Expr} {es : List Expr} {pos p px p2 : Pos} {ds dD : List D} {x m : Str} {k : Nat} {C : CtX} {c : Addr} {st : Stmt} {rest b1 b2 : List Stmt} {M N : List Slot → Prop}
/-- f(..) raises -/
theorem py_call (h : HasY X.prog X.w X.K X.mg X.base k x dD C) (hr : Room k X.A) (ha : AB X.nox r (e :: es) ds) (hc : C (ds ++ dD) c) (hg : Gl X x := by rfl) (hdb : (x == ("__debug__" : Str)) = false := by decide)
    (he : starEach (e :: es) X.env = (false, eval e X.env) :: starEach es X.env := by rfl) (hpl : (backTo pos (starEach es X.env)).any (·.1) = false := by rfl) : PY X r (.Call (.Name x p) (e :: es) [] pos) c := fun F G t H A Q W tk w => by
  obtain ⟨f, fd, ps, dvals, dvs, Fo, hm, kp, b, v, da⟩ := h
  have a1 := nA (ha F G t H A (fun vs H1 => spX X.K C (vs ++ dvs) H1 Q fun cls d H' => W cls d t H') fun vs G1 H1 e1 k1 => ⟨H1, ds ++ dD, c, Same.refl H1, k1.app (da H1), hc, fun G' H' e2 => w G1 H' ⟨e1.g, e1.gh.trans e2.h, e1.h.trans e2.h, e1.nw⟩⟩)
  unfold tE
  intro pins s I
  refine wpAny_Call_Name_kw (ld_glob I hg hm ?_ hdb)
  refine PySem.W.callWith_K (h₀ := X.base) I.ok.mod.kin kp (thn (cA.run pos pins s t H _ I a1) fun us s1 ⟨vs, H1, I1, r1, q⟩ => ⟨I1.kIn, ?_⟩) he hpl
  have r2 : Vals (vs ++ dvs) (us ++ dvals) := r1.append v
  have hl : (us ++ dvals).length = ps.length := by rw [← r2.length]; exact Fo.len _ _ _ _ q
  refine wpAny_call (codeAny_mono (Fo.run X.A X.stack s1 H1 ⟨us, []⟩ (us ++ dvals) (vs ++ dvs) Q _ hr I1.env0 (b s1 us I1.kIn hl) r2 q) fun r s' hq => ?_)
  cases r with
  | error e => exact tk e s' (L2N.XE.of_call I1 (fun _ _ _ h => h) hq)
  | ok fl =>
    cases fl with
    | ret u => exact I1.after hq
    | next => exact False.elim hq
    | brk => exact False.elim hq
    | cont => exact False.elim hq
theorem hy_expr (h : PY X r e c) (m : M r) (hs : swapsWith e none pos.line X.env = pure false := by rfl) : HY X r (.Expr e pos :: rest) c M := fun F G t H nl A D W tk w => oSs (pss_cons (ps_expr cE hs) cSs) (h F G t H A _ W tk fun G' H' e => w r G' t H' m (A.ext e))
theorem hy_ret (h : PY X r e c) (m : M r) : HY X r (.Return (some e) pos :: rest) c M := fun F G t H nl A D W tk w => oSs (pss_cons (ps_ret cE) cSs) (h F G t H A _ W tk fun G' H' e => w r G' t H' m (A.ext e))
/-- a statement that runs through, then .. -/
theorem hy_cons (h : S1 X.nox r st N (fun _ _ => False)) (k : ∀ r', N r' → HY X r' rest c M) : HY X r (st :: rest) c M := fun F G t H nl A D W tk w =>
  oSs (pss_cons cS cSs) (nS (h F G t H nl A { D with nx := tSs X rest D } (fun r' G' t' H' m A' => k r' m F G' t' H' nl A' D W tk w) fun _ _ _ _ _ _ z _ => z.elim))
theorem hy_le (l : Le r r1) (h : HY X r1 rest c M) : HY X r rest c M := fun F G t H nl A D W tk w => by
  obtain ⟨G', _, A'⟩ := A.le l nl
  exact h F G' t H nl A' D W tk w
/-- if c: .. that raises -/
theorem hy_yes (hc : TQ X.nox r c0 true) (h : HY X r b1 c M) : HY X r (.If c0 b1 b2 pos :: rest) c M := fun F G t H nl A D W tk w =>
  oSs (pss_cons (ps_if cT cSs cSs) cSs) (nT (hc F G t H A _ fun G' H' e => h F G' t H' nl (A.ext e) _ W tk w))
/-- raise C("..") -/
theorem hy_raise {j : Nat} (T : Exn X.K X.mg x c) (m0 : M r) (hcalm : X.calm = true := by rfl) (hg : Gl X x := by rfl) (hdb : (x == ("__debug__" : Str)) = false := by decide) :
    HY X r (.Raise (some (.Call (.Name x p) [.Constant (.str m) j p2] [] px)) none pos :: rest) c M := fun F G t H nl A D W tk w =>
  oSs (pss_cons (L2N.ps_raise hcalm tk (L2N.pmk_own PySem.F.excBase_ValueError T.q T.g T.k (raises_own T.b T.t) hg hdb)) cSs) (w r G t H m0 A)
end
structure HasMY (P : Program) (w : World) (K : PySem.W.Frag) (mg : Str → Option Value) (base : Heap) (k : Nat) (C : Addr) (m : Str) (Cx0 : CtX) : Prop where
  ex : ∃ f fd ps, Cls K C ∧ Meth K C m f ∧ FnOk P w K mg base (L2N.CX P w) k f fd ps (spX K Cx0) ∧ Binds K fd ps []
theorem HasMY.mono {P : Program} {w : World} {K : PySem.W.Frag} {mg : Str → Option Value} {base : Heap} {j k : Nat} {C : Addr} {m : Str} {Cx0 : CtX} (h : HasMY P w K mg base j C m Cx0) (l : j ≤ k) : HasMY P w K mg base k C m Cx0 := by
  obtain ⟨f, fd, ps, c, mt, F, b⟩ := h
  exact ⟨f, fd, ps, c, mt, F.mono l, b⟩
theorem has_methY {P : Program} {w : World} {K : PySem.W.Frag} {mg : Str → Option Value} {base : Heap} {C : Addr} {m q : Str} {st : Stmt} {ps N : List Str} {k : Nat} {Cx0 : CtX} (T : Dm K C m q st ps) (S : FnScope N ps (defScope st)) (hl : ∀ ds c, Cx0 ds c → ds.length = ps.length)
    (hb : ∀ ds c, Cx0 ds c → ∀ f cdv A outer s0 H E, Room k (A.deeper (envOfC q (defScope st) s0.heap.objs.size f cdv)) → HY (cxY P w K mg base N q (defScope st) f cdv A outer s0 H E) (entry N ds) (defBody st) c (fun _ => True)) : HasMY P w K mg base (k + 1) C m Cx0 := by
  obtain ⟨f, fd, F, cl, mt, b⟩ := T
  refine ⟨f, fd, ps, cl, mt, fun_okY F S (fun vs H Q E h => ?_) (fny_body fun ds c hc => hb ds c hc f), b⟩
  obtain ⟨G, ds, c, gh, da, hc, q⟩ := h
  rw [da.len]
  exact hl ds c hc
section
variable {X : Cx} {r : List Slot} {e a : Expr} {es : List Expr} {pos apos : Pos} {ds os : List D} {C : Addr} {ns : List Str} {m : Str} {k : Nat} {Cx0 : CtX} {c : Addr}
/-- o.m() raises -/
theorem py_meth0 {pl : Sem Bool} (h : HasMY X.prog X.w X.K X.mg X.base k C m Cx0) (hr : Room k X.A) (ho : PB X.nox r a (.ins C ns os)) (hc : Cx0 [.ins C ns os] c) (hn : m ∉ ns := by decide)
    (ht : eval (.Call (.Attribute a m apos) [] [] pos) X.env = (do
      let ov ← eval a X.env
      standAt apos.atName
      let (f, first) ← holding [ov] (getMethod ov m pl)
      callWith pos f first (backTo pos (starEach [] X.env)) (backToKw pos (keywordEach [] X.env))) := by rfl) : PY X r (.Call (.Attribute a m apos) [] [] pos) c := fun F G t H A Q W tk w => by
  obtain ⟨f, fd, ps, cl, mt, Fo, b⟩ := h
  have a1 := nE (ho F G t H A (fun v H1 => ∃ G1, Ext G H G1 H1 ∧ Dt X.K H1 v (.ins C ns os)) fun v G1 H1 e1 k1 => ⟨G1, e1, k1⟩)
  unfold tE
  intro pins s I
  refine PySem.W.methodCall_KW (pl := pl) (thn (cE.run pins s t H _ I a1) fun u s1 ⟨x, H1, I1, rx, G1, e1, k1⟩ => ?_) ht
  cases k1 with
  | @ins p dx _ _ vs _ h1 h2 h3 =>
    obtain rfl : u = Value.ref p := rx
    refine getmeth_ok I1 h1 cl mt (look_none hn) ?_
    refine PySem.W.callWith_K0 (first := [.ref p]) I1.kIn mt.kp ?_
    have q : spX X.K Cx0 [.ref p] H1 Q (fun cls d H' => W cls d t H') := ⟨H1, [.ins C ns os], c, Same.refl H1, .cons (.ins h1 h2 h3) .nil, hc, fun G' H' e2 => w G1 H' ⟨e1.g, e1.gh.trans e2.h, e1.h.trans e2.h, e1.nw⟩⟩
    have hl : ([Value.ref p] ++ ([] : List Value)).length = ps.length := Fo.len _ _ _ _ q
    refine wpAny_call (codeAny_mono (Fo.run X.A X.stack s1 H1 ⟨[.ref p], []⟩ [.ref p] [.ref p] Q _ hr I1.env0 (b s1 [.ref p] I1.kIn hl) (.cons rfl .nil) q) fun r s' hq => ?_)
    cases r with
    | error e => exact tk e s' (L2N.XE.of_call I1 (fun _ _ _ h => h) hq)
    | ok fl =>
      cases fl with
      | ret u => exact I1.after hq
      | next => exact False.elim hq
      | brk => exact False.elim hq
      | cont => exact False.elim hq
end
section
variable {X : Cx} {r : List Slot} {e a b : Expr} {es : List Expr} {pos apos : Pos} {ds os : List D} {C : Addr} {ns : List Str} {m : Str} {k : Nat} {Cx0 : CtX} {c : Addr}
/-- a == b, where a raises -/
theorem py_eq (h : PY X r a c) (hm : behindInMarks .Eq b = false := by first | exact nomark _ | rfl) : PY X r (.Compare a [.Eq] [b] pos) c := fun F G t H A Q W tk w => oE (pe_cmpR op_eq cE cE hm) (h F G t H A _ W tk w)
/-- o.m(e, ..) raises -/
theorem py_meth {pl : Sem Bool} (h : HasMY X.prog X.w X.K X.mg X.base k C m Cx0) (hr : Room k X.A) (ho : PB X.nox r a (.ins C ns os)) (ha : AB X.nox r (e :: es) ds) (hc : Cx0 (.ins C ns os :: ds) c) (hn : m ∉ ns := by decide)
    (hst : starEach (e :: es) X.env = (false, eval e X.env) :: starEach es X.env := by rfl) (hpl : (backTo pos (starEach es X.env)).any (·.1) = false := by rfl)
    (ht : eval (.Call (.Attribute a m apos) (e :: es) [] pos) X.env = (do
      let ov ← eval a X.env
      standAt apos.atName
      let (f, first) ← holding [ov] (getMethod ov m pl)
      callWith pos f first (backTo pos (starEach (e :: es) X.env)) (backToKw pos (keywordEach [] X.env))) := by rfl) : PY X r (.Call (.Attribute a m apos) (e :: es) [] pos) c := fun F G t H A Q W tk w => by
  obtain ⟨f, fd, ps, cl, mt, Fo, b⟩ := h
  have a1 := nE (ho F G t H A (fun v H1 => ∃ p dx fs, v = .ref p ∧ H1 p = some (.ins C dx fs) ∧ fs.lookup m = none ∧ tAr X (e :: es) t H1 fun vs H2 => spX X.K Cx0 (v :: vs) H2 Q fun cls d H' => W cls d t H') fun v G1 H1 e1 k1 => by
    cases k1 with
    | ins h1 h2 h3 =>
      exact ⟨_, _, _, rfl, h1, look_none hn, nA (ha F G1 t H1 (A.ext e1) _ fun vs G2 H2 e2 k2 => ⟨H2, .ins C ns os :: ds, c, Same.refl H2, .cons (.ins (e2.h _ _ h1) h2 (DtAll.mono e2.h _ _ h3)) k2, hc, fun G' H' e3 => w G2 H' ⟨(e1.trans e2).g, (e1.trans e2).gh.trans e3.h, (e1.trans e2).h.trans e3.h, (e1.trans e2).nw⟩⟩)⟩)
  unfold tE
  intro pins s I
  refine PySem.W.methodCall_KW (pl := pl) (thn (cE.run pins s t H _ I a1) fun u s1 ⟨x, H1, I1, rx, p, dx, fs, ex, h1, hl, q⟩ => ?_) ht
  subst ex
  obtain rfl : u = Value.ref p := rx
  refine getmeth_ok I1 h1 cl mt hl ?_
  refine PySem.W.callWith_K (first := [.ref p]) (h₀ := X.base) I.ok.mod.kin mt.kp (thn (cA.run pos pins s1 t H1 _ I1 q) fun us s2 ⟨vs, H2, I2, r2, q2⟩ => ⟨I2.kIn, ?_⟩) hst hpl
  have r3 : Vals (V.ref p :: vs) (Value.ref p :: us) := .cons rfl r2
  have hln : ((Value.ref p :: us) ++ ([] : List Value)).length = ps.length := by rw [List.append_nil, ← r3.length]; exact Fo.len _ _ _ _ q2
  have bb := b s2 (Value.ref p :: us) I2.kIn hln
  rw [List.append_nil] at bb
  refine wpAny_call (codeAny_mono (Fo.run X.A X.stack s2 H2 ⟨Value.ref p :: us, []⟩ (Value.ref p :: us) (V.ref p :: vs) Q _ hr I2.env0 bb r3 q2) fun r s' hq => ?_)
  cases r with
  | error e => exact tk e s' (L2N.XE.of_call I2 (fun _ _ _ h => h) hq)
  | ok fl =>
    cases fl with
    | ret u => exact I2.after hq
    | next => exact False.elim hq
    | brk => exact False.elim hq
    | cont => exact False.elim hq
end
section
variable {X : Cx} {r r1 : List Slot} {e : Expr} {pos pos' p np pT : Pos} {x n y : Str} {c C C' : Addr} {body suite : List Stmt} {b₀ : Stmt} {N : List Slot → Prop} {R : Slot → List Slot → Prop}
theorem takes0N : L2N.Takes X (fun _ _ _ _ => False) := fun _ _ ⟨_, _, _, _, _, _, _, _, _, _, _, _, _, _, _, _, w⟩ => w.elim
/-- try: body that raises c, caught by except x; the suite may call -/
theorem s1_tryN (hb : ∀ pn xe, HY (X.tr pn xe) r body c (fun r' => r' = r1)) (hC : X.mg x = some (.ref C)) (hcat : Cat X.K c C true)
    (hsu : ∀ a oe pn, L2H.HotC (X.suite a ((a, oe) :: pn)) → HS (X.suite a ((a, oe) :: pn)) r1 (b₀ :: suite) N R)
    (hs : X.stack = X.env :: X.outer := by rfl) (hf : X.env.frame = some X.env.locals := by rfl) (hg : Gl X x := by rfl) (hdb : (x == ("__debug__" : Str)) = false := by decide) :
    S1 X r (.Try body [.ExceptHandler (some (.Name x np)) none (b₀ :: suite) pos'] [] [] pos) N R := fun F G t H nl A D nn q =>
  oS (L2N.ps_try_many (tb := fun W D σ H => ∀ pn xe, L2N.Takes (X.tr pn xe) W → tSs (X.tr pn xe) body D σ H) (Wout := fun _ _ _ _ => False) (l := [(.ref C, fun a cls d D σ H => ∀ oe pn, L2N.Zn cls d oe → (∃ vs, oe.data = .fields vs) → tSs (X.suite a ((a, oe) :: pn)) (b₀ :: suite) D σ H)])
    hs hf takes0N (fun W pn xe tk _ => ⟨fun pins s _ _ _ I h => cSs.run pins s _ _ _ I (h pn xe tk)⟩) (.cons ⟨hg, hdb, .inl hC⟩ (fun a oe cls d pn hz hv => ⟨fun pins s _ _ _ I h => cSs.run pins s _ _ _ I (h oe pn hz hv)⟩) .nil))
    (fun pn xe tk => hb pn xe F G t H nl A D _ tk fun r' G' t' H' er A' => ⟨true, hcat.is, fun _ a na oe pn hz hv => by
      subst er
      exact hsu a oe pn (hot_suite hz hv) F G' t' H' nl A' _ nn q, fun z => by cases z⟩)
end
end DL
namespace L2H
open PySem PySem.Spec PyProof.Rows L2 HotX
/-- all(xs) of truths while an exception is handled -/
theorem cr_allH {X : Cx} (hc : HotC X) : CallR X (.builtin "all") (rAll X.K) := fun pins s σ H vs us Q I r ⟨a, bs, ev, hs, q⟩ => by
  subst ev
  obtain ⟨its, rv, hl, _⟩ := I.list hs
  obtain ⟨x1, hot⟩ := hc.at I
  have hb := rv.bls
  rw [Vals.ref1 r]
  refine call_all_walk (iter_any hl.isList fun s2 es st ne => ?_)
  subst es
  refine ⟨_, _, _, _, _, _, _, rfl, walks_listH (A := X.A.in1) _ a x1 ne (Nat.ne_of_lt hot.lt) its.toArray, ⟨st.1, st.2, HotAt.keep (A := X.A.in1) hot fun o e => Heap.get?_push_of_some _ e⟩, truth_bools hb, fun h' tk hk => ⟨.bl _, H, I.kept fun b o e => hk b o (fun hm => ?_) (Heap.get?_push_of_some _ e), ?_, q⟩⟩
  · exact Nat.lt_irrefl _ (List.mem_singleton.mp hm ▸ Heap.lt_size e)
  · show Value.bool _ = Value.bool _
    rw [← L2.all_range, hb, List.size_toArray, List.length_map]
end L2H
namespace DL
open PySem PySem.Spec PyProof.Rows L2 L2H
section
variable {X : Cx} {r : List Slot} {a : Expr} {pos p : Pos}
theorem pb_allFH {α : Type} {f : α → Bool} {l : List α} (hot : HotC X) (B : Bi X.mg) (ha : PB X r a (.lst (l.map fun x => .bl (f x)))) (hs : starEach [a] X.env = (false, eval a X.env) :: starEach [] X.env := by rfl) (hg : Gl X "all" := by rfl) (hp : (backTo pos (starEach [] X.env)).any (·.1) = false := by rfl) : PB X r (.Call (.Name "all" p) [a] [] pos) (.bl (l.all f)) := by
  have hb : PB X r a (.lst ((l.map f).map .bl)) := by rw [← map_bls]; exact ha
  refine pb_is (d := .bl ((l.map f).all id)) (pb_call1 (v := .bl ((l.map f).all id)) (pe_callB (cr_allH hot) hg B.all (by decide +kernel) cA (he := hs) (hpl := hp)) (ab1 hb hs) (fun vs H Q k q => ?_) fun _ => .bl _) (by rw [all_map])
  cases k with
  | cons k1 k2 =>
    cases k2
    cases k1 with
    | lst h1 h2 => rw [h2.bls_inv] at h1; exact ⟨_, l.map f, rfl, SqL.of h1, q⟩
end
end DL

/-! Part 44: lambdas: made, kept as data, called; tables of code objects as slots; the empty dict. -/
namespace DL
open PySem PySem.Spec PyProof.Rows L2
section
variable {X : Cx} {pins : List (Addr × Obj)} {t : L2.St} {H : Hp} {s : Shared}
/-- a lambda's object just laid is known -/
theorem lam_laid (L : LF) (c : Addr) (pm ctv : Value) (tk : Nat) (I : Inv X pins t H s) :
    Inv X pins t (L2.upd H s.heap.objs.size (LamO s.heap.objs.size L c)) { s with heap := s.heap.push (PySem.W.kla_obj "<lambda>" L.qual L.ps L.body L.sc L.cl pm c ctv), toks := tk } := by
  have z : (s.heap.push (PySem.W.kla_obj "<lambda>" L.qual L.ps L.body L.sc L.cl pm c ctv)).get? s.heap.objs.size = some (PySem.W.kla_obj "<lambda>" L.qual L.ps L.body L.sc L.cl pm c ctv) := Heap.get?_push_size _ rfl
  exact I.laid (fun _ _ y => Heap.get?_push_of_some _ y) (Nat.le_refl _) ⟨⟨pm, ctv, z⟩, ⟨_, z⟩, fun _ _ ⟨a, b, y⟩ st => ⟨a, b, st _ y⟩⟩
/-- the making of a lambda, its maker's table at P -/
theorem lam_run {c P : Addr} {q : Str} {ps : Arguments} {body : Expr} {sc : Scope} {pos : Pos} {tb : Array Value} {E Q : Value → Shared → Prop} (I : Inv X pins t H s) (TB : LamX.TabB X.base X.mg c P) (hc : X.env.code = .ref c) (hq : X.env.qual ++ "<lambda>" = q)
    (hP : H P = some (.tbl tb)) (ok : TriplesOk tb.toList) (hit : ∀ (pos : Pos) (cv : Value), codeAmong pos tb.toList = some cv → ∃ c', cv = .ref c')
    (hd : defaultsOf ps X.env = ([], [])) (hf : ∀ y ∈ sc.names, y.2 = .free → ∃ c, X.env.cells.lookup y.1 = some c)
    (go1 : ∀ (f c' : Addr) (s' : Shared), H f = none → H c' = none → f ≠ c' →
      Inv X pins t (L2.upd (L2.upd (L2.upd H P (.tbl (tb ++ #[rawInt pos.line, rawInt pos.col, .ref c']))) c' (LamX.CodeO c' q)) f (LamO f ⟨q, ps, body, sc, cloFrom X.env.cells sc.names []⟩ c')) s' → Q (.ref f) s')
    (go2 : ∀ (f c' : Addr) (s' : Shared), H f = none → codeAmong pos tb.toList = some (.ref c') → Inv X pins t (L2.upd H f (LamO f ⟨q, ps, body, sc, cloFrom X.env.cells sc.names []⟩ c')) s' → Q (.ref f) s') :
    wpAny (model X.prog X.w) X.A (eval (.Lambda ps body sc pos) X.env) Q E s := by
  subst hq
  refine PySem.W.kla_eval hd ?_
  have at0 : s.heap.get? P = some { cls := .none, data := .fields tb } := I.hok P _ hP
  have bm := TB.bm.keeps I.bk
  cases hz : codeAmong pos tb.toList with
  | none =>
    refine PySem.W.kla_makeFunction (mg := X.mg) (ps := tb) (closure_ok hf) I.ok.glob (I.mod.glob.keeps I.bk) hc (TB.code.keeps I.bk) at0 ok hz TB.gP bm ?_
    intro c' ctv h' tk ex lo hi rec tab
    obtain ⟨c2, oc, vs, tq, e2, a1, a2, a3⟩ := rec
    cases e2
    have nc : H c' = none := I.hok.fresh lo
    have I1 := LamX.inv_table (t' := tk) (q := X.env.qual ++ "<lambda>") (more := #[rawInt pos.line, rawInt pos.col, .ref c']) (h' := h') I hP (fun b o hb y => ex b o hb y) tab lo ⟨oc, vs, tq, a1, a2, a3⟩
    have I2 := lam_laid ⟨X.env.qual ++ "<lambda>", ps, body, sc, cloFrom X.env.cells sc.names []⟩ c' ((X.mg "__name__").getD .none) ctv tk I1
    exact go1 h'.objs.size c' _ (I.hok.fresh (Nat.le_trans lo (Nat.le_of_lt hi))) nc (Nat.ne_of_gt hi) I2
  | some cv =>
    obtain ⟨c', rfl⟩ := hit pos cv hz
    refine PySem.W.kla_makeFunctionHit (mg := X.mg) (ps := tb) (closure_ok hf) I.ok.glob (I.mod.glob.keeps I.bk) hc (TB.code.keeps I.bk) at0 ok hz bm ?_
    intro ctv h' tk ex lo
    have I1 : Inv X pins t H { s with heap := h', toks := tk } := I.kept ex
    have I2 := lam_laid ⟨X.env.qual ++ "<lambda>", ps, body, sc, cloFrom X.env.cells sc.names []⟩ c' ((X.mg "__name__").getD .none) ctv tk I1
    exact go2 h'.objs.size c' _ (I.hok.fresh lo) hz I2
end
section
variable {K : PySem.W.Frag} {F : Fr} {G H : Hp} {r : List Slot} {t : L2.St}
/-- a table of ours: what is known, how it may change -/
theorem At.tab {i : Nat} {P : Addr} {q : Str} (A : At K F G r t H) (nl : F.L = []) (hi : r[i]? = some (.tb P q)) : ∃ tb : Array Value, H P = some (.tbl tb) ∧ TriplesOk tb.toList ∧
    (∀ (pos : Pos) (cv : Value), codeAmong pos tb.toList = some cv → ∃ c, cv = .ref c ∧ G c = some (LamX.CodeO c q)) ∧ G P = none ∧ F.H P = none ∧
    ∀ (G' H' : Hp) (tb' : Array Value), Same G G' → (∀ a o, a ≠ P → H a = some o → H' a = some o) → (∀ a, H a ≠ none → G a = none → G' a = none) → Same G' H' → H' P = some (.tbl tb') → TriplesOk tb'.toList →
      (∀ (pos : Pos) (cv : Value), codeAmong pos tb'.toList = some cv → ∃ c, cv = .ref c ∧ G' c = some (LamX.CodeO c q)) → At K F G' r t H' := by
  obtain ⟨ok, fp, sl, nd, fr⟩ := A
  obtain ⟨v, f1, f0, f2, h1, h2, h3, h4⟩ := sl.split hi
  obtain ⟨rfl, tb, hP, ht, ha⟩ := h3
  have mP : P ∈ fp := by rw [h2]; simp
  have gP : G P = none := (fr P mP).1
  have FP : F.H P = none := (fr P mP).2.elim id fun z => by rw [nl] at z; cases z
  refine ⟨tb, hP, ht, ha, gP, FP, fun G' H' tb' s1 s2 s3 s4 hP' ht' ha' => ?_⟩
  have np : ∀ a, a ∈ f1 ++ f2 → a ≠ P := fun a hm e => by
    rw [h2, List.nodup_append] at nd
    obtain ⟨_, n2, n3⟩ := nd
    rw [List.nodup_append] at n2
    rcases List.mem_append.mp hm with z | z
    · exact n3 a z P (by simp) e
    · exact n2.2.2 P (by simp) a z e.symm
  have sl' := h4 G' H' (.tb P q) v [P] s1 (fun a o hm z => s2 a o (np a hm) z) ⟨rfl, tb', hP', ht', ha'⟩
  have e1 : r.set i (.tb P q) = r := by
    obtain ⟨hlt, he⟩ := List.getElem?_eq_some_iff.mp hi
    rw [← he]; exact List.set_getElem_self hlt
  have e2 : t.set i v = t := by
    obtain ⟨hlt, he⟩ := List.getElem?_eq_some_iff.mp h1
    rw [← he]; exact List.set_getElem_self hlt
  rw [e1, e2, ← h2] at sl'
  refine ⟨⟨ok.g.trans s1, s4, fun a o z n => s2 a o (fun e => by rw [e, FP] at z; cases z) (ok.h a o z n), fun a z n => s3 a (ok.ne z) (ok.nw a z n), fun a z => by rw [nl] at z; cases z⟩, fp, sl', nd, fun a hm => ⟨s3 a (sl.has a hm) (fr a hm).1, (fr a hm).2⟩⟩
end
section
variable {X : Cx} {r r1 r2 : List Slot} {e a b c : Expr} {es : List Expr} {pos p px : Pos} {d d1 d2 : D} {ds xs ys : List D} {x : Str} {rest : List Stmt} {N M : List Slot → Prop} {R : Slot → List Slot → Prop}
/-- lambda .. -/
theorem pl_lam (i : Nat) {cd P : Addr} {q : Str} {ps : Arguments} {body : Expr} {sc : Scope} (TB : LamX.TabB X.base X.mg cd P) (hc : X.env.code = .ref cd) (hf : ∀ y ∈ sc.names, y.2 = .free → ∃ c, X.env.cells.lookup y.1 = some c)
    (hi : r[i]? = some (.tb P q) := by rfl) (hq : X.env.qual ++ "<lambda>" = q := by rfl) (hd : defaultsOf ps X.env = ([], []) := by rfl) : PL X r (.Lambda ps body sc pos) (.fn ⟨q, ps, body, sc, cloFrom X.env.cells sc.names []⟩) r := fun F G t H nl A Q k => by
  obtain ⟨tb, hP, ht, ha, gP, FP, up⟩ := A.tab nl hi
  have gh := A.gh
  unfold tE
  intro pins s I
  refine lam_run I TB hc hq hP ht (fun pos cv z => by obtain ⟨c, e, _⟩ := ha pos cv z; exact ⟨c, e⟩) hd hf (fun f c' s' nf nc ne J => ?_) (fun f c' s' nf hz J => ?_)
  · have gf : G f = none := gh.free nf
    have gc : G c' = none := gh.free nc
    have fP : P ≠ f := ne_of_none hP nf
    have cP : P ≠ c' := ne_of_none hP nc
    have s1 : Same G (L2.upd (L2.upd G c' (LamX.CodeO c' q)) f (LamO f ⟨q, ps, body, sc, cloFrom X.env.cells sc.names []⟩ c')) := fun y o z => by rw [upd_ne (ne_of_none z gf), upd_ne (ne_of_none z gc)]; exact z
    have cc : (L2.upd (L2.upd G c' (LamX.CodeO c' q)) f (LamO f ⟨q, ps, body, sc, cloFrom X.env.cells sc.names []⟩ c')) c' = some (LamX.CodeO c' q) := by rw [upd_ne ne.symm, upd_same]
    refine ⟨.ref f, _, J, rfl, k (.ref f) _ _ s1 (up _ _ (tb ++ #[rawInt pos.line, rawInt pos.col, .ref c']) s1 (fun y o n z => ?_) (fun y n z => ?_) (fun y o z => ?_) ?_ ?_ (fun pos' cv hcv => ?_)) (.fn upd_same cc)⟩
    · rw [upd_ne (ne_of_none z nf), upd_ne (ne_of_none z nc), upd_ne n]; exact z
    · rw [upd_ne (fun w => n (by rw [w]; exact nf)), upd_ne (fun w => n (by rw [w]; exact nc))]; exact z
    · by_cases w : y = f
      · subst w; rw [upd_same] at z ⊢; exact z
      · rw [upd_ne w] at z ⊢
        by_cases w2 : y = c'
        · subst w2; rw [upd_same] at z ⊢; exact z
        · rw [upd_ne w2] at z ⊢
          rw [upd_ne (ne_of_none z gP)]
          exact gh y o z
    · rw [upd_ne fP, upd_ne cP, upd_same]
    · rw [show (tb ++ #[rawInt pos.line, rawInt pos.col, Value.ref c']).toList = tb.toList ++ [rawInt pos.line, rawInt pos.col, .ref c'] by simp]
      exact PySem.TriplesOk_snoc _ _ _ _ ht
    · rw [show (tb ++ #[rawInt pos.line, rawInt pos.col, Value.ref c']).toList = tb.toList ++ [rawInt pos.line, rawInt pos.col, .ref c'] by simp] at hcv
      rcases LamX.among_app _ ht hcv with z | z
      · obtain ⟨c0, e1, e2⟩ := ha pos' cv z
        exact ⟨c0, e1, s1 _ _ e2⟩
      · exact ⟨c', z, cc⟩
  · obtain ⟨c0, e0, gc⟩ := ha pos _ hz
    cases e0
    have gf : G f = none := gh.free nf
    have fP : P ≠ f := ne_of_none hP nf
    have s1 : Same G (L2.upd G f (LamO f ⟨q, ps, body, sc, cloFrom X.env.cells sc.names []⟩ c')) := Same.new gf
    refine ⟨.ref f, _, J, rfl, k (.ref f) _ _ s1 (up _ _ tb s1 (fun y o n z => ?_) (fun y n z => ?_) (Same.both gh) ?_ ht (fun pos' cv hcv => ?_)) (.fn upd_same (s1 _ _ gc))⟩
    · rw [upd_ne (ne_of_none z nf)]; exact z
    · rw [upd_ne (fun w => n (by rw [w]; exact nf))]; exact z
    · rw [upd_ne fP]; exact hP
    · obtain ⟨c1, e1, e2⟩ := ha pos' cv hcv
      exact ⟨c1, e1, s1 _ _ e2⟩
/-! ### new lists of ours, the state changing -/
def PLO (X : Cx) (r : List Slot) (e : Expr) (xs : List D) (r' : List Slot) : Prop := ∀ (F : Fr) (G : Hp) (t : L2.St) (H : Hp), F.L = [] → At X.K F G r t H → ∀ Q : VK,
  (∀ p vs G' H1 H', Same G G' → At X.K F G' r' t H1 → Ext G' H1 G' H' → H1 p = none → H' p = some (.lst vs) → DtAll X.K G' vs xs → Q (.ref p) H') → tE X e t H Q
theorem plo_lst (h : AC X r es ds r1) (hz : ds.length ≤ sizeLine := by exact Nat.le_of_ble_eq_true rfl) : PLO X r (.List es pos) ds r1 := fun F G t H nl A Q q =>
  oE (pe_lst cA) (h F G t H nl A _ fun vs G1 H1 s1 A1 k1 => ⟨by rw [k1.len]; exact hz, fun p hp => q p vs G1 H1 _ s1 A1 (Ext.newO A1.gh hp) hp upd_same k1⟩)
theorem pl_o (h : PLO X r e xs r1) : PL X r e (.lst xs) r1 := fun F G t H nl A Q q => h F G t H nl A Q fun p vs G' H1 H' s1 A1 ex n k da => by
  have gp : G' p = none := A1.gh.free n
  have e2 := ex.tell n gp k
  exact q (.ref p) _ H' (s1.trans e2.g) (A1.ext e2) (.lst upd_same (DtAll.mono e2.g _ _ da))
/-- x + e, x a list of ours -/
theorem plo_catV (i : Nat) (hb : PL X r b (.lst ys) r1) (hz : xs.length + ys.length ≤ sizeLine) (hi : r[i]? = some (.o xs) := by rfl) (hi1 : r1[i]? = some (.o xs) := by rfl) (hN : X.N[i]? = some x := by rfl)
    (hv : Vis X.env.scope x := by first | exact Or.inl rfl | exact Or.inr (Or.inl rfl) | exact Or.inr (Or.inr rfl)) (hd : (x == ("__debug__" : Str)) = false := by decide) (hcd : (x == ("__classdict__" : Str)) = false := by decide) : PLO X r (.BinOp (.Name x px) .Add b pos) (xs ++ ys) r1 := fun F G t H nl A Q q => by
  obtain ⟨l, vs, h1, h2, h3⟩ := at_o A hi
  refine oE (pe_op op_cat (pe_var hN hv hd hcd) cE) ⟨_, h1, hb F G t H nl A _ fun v G1 H1 s1 A1 k1 => ?_⟩
  obtain ⟨l', vs', g1, g2, g3⟩ := at_o A1 hi1
  rw [h1] at g1
  cases g1
  cases k1 with
  | lst h4 h5 => exact ⟨_, _, _, _, rfl, rfl, g2, A1.gh _ _ h4, by rw [g3.len, h5.len]; exact hz, fun p hp => q p _ G1 H1 _ s1 A1 (Ext.newO A1.gh hp) hp upd_same (g3.app h5)⟩
theorem hs_asgLO (i : Nat) {s : Slot} (nd : X.N.Nodup) (he : PLO X r e xs r1) (k : HS X (r1.set i (.o xs)) rest N R) (hr : r1[i]? = some s := by rfl) (hN : X.N[i]? = some x := by rfl) (hx : Loc X.env.scope x := by first | exact Or.inl rfl | exact Or.inr rfl) (hs : swapsWith e (some (.Name x px)) pos.line X.env = pure false := by rfl)
    (hf : X.fn x = true ∨ X.env.scope.names.lookup x = some .local := by first | exact .inl rfl | exact .inr rfl) : HS X r (.Assign [.Name x px] e pos :: rest) N R :=
  hs_cons (M := fun r' => r' = r1.set i (.o xs)) (fun F G t H nl A D n q => oS (ps_set nd hN hx cE hs hf) (he F G t H nl A _ fun p vs G' H1 H' s1 A1 ex np k da => n _ G' _ H' rfl (A1.asgO hr ex np (A1.gh.free np) k da))) fun _ e => e ▸ k
/-- xs.append(e), e changing the state -/
theorem hs_appL {apos : Pos} (i : Nat) (he : PL X r e d r1) (hz : xs.length < sizeLine) (k : HS X (r1.set i (.o (xs ++ [d]))) rest N R) (hr : r[i]? = some (.o xs) := by rfl) (hr1 : r1[i]? = some (.o xs) := by rfl) (hN : X.N[i]? = some x := by rfl)
    (hv : Vis X.env.scope x := by first | exact Or.inl rfl | exact Or.inr (Or.inl rfl) | exact Or.inr (Or.inr rfl)) (hd : (x == ("__debug__" : Str)) = false := by decide)
    (hcd : (x == ("__classdict__" : Str)) = false := by decide) (hsw : swapsWith (.Call (.Attribute (.Name x px) "append" apos) [e] [] p) none pos.line X.env = pure false := by rfl)
    (hpe : ∀ {to : TE} {t : TA}, PE X (.Name x px) to → PA X [e] t → PE X (.Call (.Attribute (.Name x px) "append" apos) [e] [] p) (tBM X.K "list" rAppend to t) := by exact fun ho ha => pe_bm PySem.F.plainAttrs_list PySem.F.slot_list_append PySem.F.type_list_append mt_append ho ha)
    (hs : starEach [e] X.env = (false, eval e X.env) :: starEach [] X.env := by rfl) : HS X r (.Expr (.Call (.Attribute (.Name x px) "append" apos) [e] [] p) pos :: rest) N R :=
  hs_cons (M := fun r' => r' = r1.set i (.o (xs ++ [d]))) (fun F G t H nl A D n q => by
    obtain ⟨l0, vs0, z1, z2, z3⟩ := at_o A hr
    refine oS (ps_expr (hpe (pe_var hN hv hd hcd) cA) hsw) ⟨_, z1, .inl ⟨rfl, vs0, SqL.of z2⟩, ac_cons he ac_nil hs F G t H nl A _ fun ws G' H' s1 A1 kk => ?_⟩
    obtain ⟨l, vs, h1, h2, h3, h4, h5⟩ := A1.upd hr1
    rw [z1] at h1
    cases h1
    cases kk with
    | cons k1 k2 =>
      cases k2
      exact ⟨l0, vs, _, rfl, rfl, h2, by rw [h3.len]; exact hz, n _ G' t _ rfl (h5 G' H' _ _ (Ext.refl A1.gh) (h3.app (.cons k1 .nil)))⟩) fun _ e => e ▸ k
/-- a call whose arguments change the state -/
theorem pl_call {k : Nat} {C : Ct} {dD : List D} (h : Has X.prog X.w X.K X.mg X.base k x dD C) (hr : Room k X.A) (ha : AC X r (e :: es) ds r1) (hc : C (ds ++ dD) (.d d)) (hg : Gl X x := by rfl) (hdb : (x == ("__debug__" : Str)) = false := by decide)
    (he : starEach (e :: es) X.env = (false, eval e X.env) :: starEach es X.env := by rfl) (hpl : (backTo pos (starEach es X.env)).any (·.1) = false := by rfl) : PL X r (.Call (.Name x p) (e :: es) [] pos) d r1 := fun F G t H nl A Q q => by
  obtain ⟨dvs, da, pe⟩ := call_of h hr hg hdb he hpl
  refine oE pe (ha F G t H nl A _ fun vs G1 H1 s1 A1 k1 => ⟨G1, ds ++ dD, .d d, A1.gh, k1.app (da G1), hc, fun v H' ret => ?_⟩)
  obtain ⟨G', e2, k2⟩ := ret.ext
  exact q v G' H' (s1.trans e2.g) (A1.ext e2) k2
theorem tl_v {k : Bool} (h : PL X r e (.bl k) r1) (he : ∀ whole, isTrue e X.env whole = (do let v ← whole; standAt e.pos; holding [v] (truthy v)) := by intro _; rfl) : TL X r e k r1 := fun F G t H nl A Q q =>
  oT (pt_val cE he) (h F G t H nl A _ fun v G' H' s1 A1 z => by cases z; exact ⟨k, rfl, q G' H' s1 A1⟩)
theorem tl_not {k : Bool} (h : TL X r a k r1) : TL X r (.UnaryOp .Not a pos) (!k) r1 := fun F G t H nl A Q q => oT (pt_not cT) (h F G t H nl A _ fun G' H' s1 A1 => q G' H' s1 A1)
/-- {} -/
theorem pp_dct : PP X r (.Dict [] [] pos) .dct := fun F G t H A Q q => oE pe_dnewK fun l hl => q _ (L2.upd G l (.dK [])) _ (Ext.new A.gh hl) (.dct upd_same)
end
/-! ### lambdas called -/
/-- what calling a lambda raises -/
def LamY (P : Program) (w : World) (K : PySem.W.Frag) (mg : Str → Option Value) (base : Heap) (k : Nat) (L : LF) (C : CtX) : Prop := ∀ (A : Around) (outer : List Env) (s : Shared) (H : Hp) (f c' : Addr) (us : List Value) (vs : List V) (Q : VK) (E : XK), Room k A → Env0 P w K mg base A outer s H →
  H f = some (LamO f L c') → H c' = some (LamX.CodeO c' L.qual) → Vals vs us → spX K C vs H Q E → codeAny (model P w) A (.call (.ref f) ⟨us, []⟩) (L2.CR (L2N.CX P w) outer P w H s Q E) s
theorem LamY.mono {P : Program} {w : World} {K : PySem.W.Frag} {mg : Str → Option Value} {base : Heap} {j k : Nat} {L : LF} {C : CtX} (h : LamY P w K mg base j L C) (l : j ≤ k) : LamY P w K mg base k L C := fun A outer s H f c' us vs Q E hr => h A outer s H f c' us vs Q E (hr.mono l)
section
variable {P : Program} {w : World} {K : PySem.W.Frag} {mg : Str → Option Value} {base : Heap}
theorem lamY_mk {L : LF} {N ps : List Str} {k : Nat} {C : CtX} (S : FnScope N ps L.sc) (hcl : L.cl = []) (hb : ∀ (pm cv ctv : Value) (us : List Value), us.length = ps.length → bindArgs (PySem.W.kla_fn "<lambda>" L.qual L.ps L.body L.sc L.cl pm cv ctv) ⟨us, []⟩ = pure (ps.zip us))
    (hl : ∀ ds c, C ds c → ds.length = ps.length)
    (hbody : ∀ ds c, C ds c → ∀ f cdv A outer s0 H E, Room k (A.deeper (envOfC L.qual L.sc s0.heap.objs.size f cdv)) → PY (cxY P w K mg base N L.qual L.sc f cdv A outer s0 H E) (entry N ds) L.body c) : LamY P w K mg base (k + 1) L C := by
  intro A outer s H f c' us vs Q E hr e0 hf hc rv sp
  obtain ⟨G, ds, c, gh, da, cc, w1⟩ := sp
  have lv : vs.length = ps.length := by rw [da.len]; exact hl ds c cc
  have lim : s.heap.NoLimit := e0.mod.nolimit.keeps fun b o z => (e0.bs b o z).1
  obtain ⟨⟨pm, ctv, at0⟩, _, _⟩ := e0.hok f _ hf
  obtain ⟨⟨oc, cs, tq, q1, q2, q3⟩, _, _⟩ := e0.hok c' _ hc
  refine PySem.W.kla_callFunE hr.depth at0 rfl S.co S.gen rfl ⟨c', oc, cs, tq, rfl, q1, q2, q3⟩ ?_
  rw [hb pm (.ref c') ctv us (by rw [← rv.length]; exact lv)]
  refine wpAny_pure ?_
  have kd : ∀ y ∈ ps.zip us, L.sc.names.lookup y.1 = some .local ∨ (L.sc.names.lookup y.1 = some .cell ∧ ((cellsFrom (s.heap.objs.size + 1) L.sc.names []).lookup y.1).isSome = true) := fun y hy => by
    rcases S.par y.1 (List.of_mem_zip hy).1 with z | z
    · exact Or.inl z
    · exact Or.inr ⟨z, PySem.W.cellsFrom_some _ _ _ (Or.inl z)⟩
  show wpAny _ _ (newFunctionEnv L.sc mainGlobals L.cl (ps.zip us) (L.qual ++ ".<locals>.") (some f) (.ref c') none builtinsNs) _ _ _
  rw [hcl]
  refine wpAny_newFunctionEnv_cells S.kind kd fun env he s1 x => ?_
  subst he
  refine ⟨lim.keeps x.toInCall.keep, PySem.W.kla_codeExpr ?_⟩
  have I : Inv (cxY P w K mg base N L.qual L.sc f (.ref c') A outer s H E) [] (L2.start N vs) H s1 := inv_start S hr.hd e0 lv rv x
  have b1 := hbody ds c cc f (.ref c') A outer s H E (hr.deeper _) ⟨[], G, H⟩ G (L2.start N vs) H ?_ Q (fun cls d _ H => E cls d H) (L2N.takes_of rfl rfl rfl rfl) fun G' H' ex => w1 G' H' ex
  · refine wpAny_mono (cE.run [] s1 (L2.start N vs) H _ I b1) (fun v s' z => ?_) fun e s' z => z
    obtain ⟨v1, H1, J, r1, q⟩ := z
    exact ⟨v1, H1, J.os, J.bare, J.base, J.hok, r1, q⟩
  · refine ⟨⟨Same.refl G, gh, fun _ _ z _ => z, fun _ _ z => z, fun _ z => by cases z⟩, [], ?_, by simp, fun a ha => by cases ha⟩
    unfold L2.start entry
    rw [da.len]
    exact slots_start _ da
end
section
variable {X : Cx} {r : List Slot} {e : Expr} {es : List Expr} {pos p : Pos} {ds : List D} {x : Str} {k : Nat} {C : CtX} {c : Addr} {L : LF}
/-- x(e, ..), x a lambda, raises -/
theorem py_lam (i : Nat) (h : LamY X.prog X.w X.K X.mg X.base k L C) (hr : Room k X.A) (ha : AB X.nox r (e :: es) ds) (hc : C ds c) (hi : r[i]? = some (.d (.fn L)) := by rfl) (hN : X.N[i]? = some x := by rfl) (hv : Vis X.env.scope x := by first | exact Or.inl rfl | exact Or.inr (Or.inl rfl) | exact Or.inr (Or.inr rfl))
    (hd : (x == ("__debug__" : Str)) = false := by decide) (hcd : (x == ("__classdict__" : Str)) = false := by decide) (he : starEach (e :: es) X.env = (false, eval e X.env) :: starEach es X.env := by rfl) (hpl : (backTo pos (starEach es X.env)).any (·.1) = false := by rfl) : PY X r (.Call (.Name x p) (e :: es) [] pos) c := fun F G t H A Q W tk w => by
  obtain ⟨v, h1, h2⟩ := at_d A hi
  cases h2 with
  | @fn f c' _ g1 g2 =>
    have a1 := nA (ha F G t H A (fun vs H1 => H1 f = some (LamO f L c') ∧ H1 c' = some (LamX.CodeO c' L.qual) ∧ spX X.K C vs H1 Q fun cls d H' => W cls d t H') fun vs G1 H1 e1 k1 => ⟨e1.h _ _ (A.gh _ _ g1), e1.h _ _ (A.gh _ _ g2), H1, ds, c, Same.refl H1, k1, hc, fun G' H' e2 => w G1 H' ⟨e1.g, e1.gh.trans e2.h, e1.h.trans e2.h, e1.nw⟩⟩)
    have fnat : ∀ {pins : List (Addr × Obj)} {σ : L2.St} {H : Hp} {s : Shared}, Inv X pins σ H s → H f = some (LamO f L c') → PySem.W.FnAt f s.heap := fun J z => by
      obtain ⟨⟨pm, ctv, y⟩, _, _⟩ := J.hok f _ z
      exact ⟨_, _, _, _, y⟩
    unfold tE
    intro pins s I
    refine wpAny_Call_Name_kw (thn ((pe_var (pos := p) hN hv hd hcd).run pins s t H (fun v H1 => v = .ref f ∧ H1 = H) I ⟨.ref f, h1, rfl, rfl⟩) fun u s1 ⟨v, H1, I1, r1, q1⟩ => ?_)
    obtain ⟨ev, eH⟩ := q1
    subst ev
    rw [eH] at I1
    obtain rfl : u = Value.ref f := r1
    refine PySem.W.callWith_F (first := []) (fnat I1 (A.gh _ _ g1)) (thn (cA.run pos pins s1 t H _ I1 a1) fun us s2 ⟨vs, H2, I2, r2, y1, y2, y3⟩ => ⟨fnat I2 y1, ?_⟩) he hpl
    show wpAny _ _ (call (.ref f) us) _ _ _
    refine wpAny_call (codeAny_mono (h X.A X.stack s2 H2 f c' us vs Q _ hr I2.env0 y1 y2 r2 y3) fun rr s' hq => ?_)
    cases rr with
    | error e => exact tk e s' (L2N.XE.of_call I2 (fun _ _ _ h => h) hq)
    | ok fl =>
      cases fl with
      | ret u => exact I2.after hq
      | next => exact False.elim hq
      | brk => exact False.elim hq
      | cont => exact False.elim hq
end
/-! ### try: .. except x as n: with a suite that calls -/
section
variable {X : Cx} {r r1 : List Slot} {e : Expr} {pos pos' p np : Pos} {x n : Str} {c C : Addr} {body suite : List Stmt} {b₀ : Stmt} {N : List Slot → Prop} {R : Slot → List Slot → Prop}
theorem s1_tryAN (i : Nat) {s : Slot} (hb : ∀ pn xe, HY (X.tr pn xe) r body c (fun r' => r' = r1)) (nd : X.N.Nodup) (hC : X.mg x = some (.ref C)) (hcat : Cat X.K c C true)
    (hsu : ∀ a oe pn, L2N.Zn (.ref c) none oe → (∃ vs, oe.data = .fields vs) → HS (X.suite a ((a, oe) :: pn)) (r1.set i (.d (.val (.ref a)))) (b₀ :: suite) (fun r' => N (r'.set i .un)) R)
    (hri : r1[i]? = some s := by rfl) (hs : X.stack = X.env :: X.outer := by rfl) (hf : X.env.frame = some X.env.locals := by rfl) (hi : X.N[i]? = some n := by rfl) (hln : X.env.kindOf n = some .local := by rfl) (hg : Gl X x := by rfl) (hdb : (x == ("__debug__" : Str)) = false := by decide) :
    S1 X r (.Try body [.ExceptHandler (some (.Name x np)) (some n) (b₀ :: suite) pos'] [] [] pos) N R := fun F G t H nl A D nn q =>
  oS (L2N.ps_try_as (i := i) (c := .ref C) (tb := fun W D σ H => ∀ pn xe, L2N.Takes (X.tr pn xe) W → tSs (X.tr pn xe) body D σ H) (ts := fun a cls d D σ H => ∀ oe pn, L2N.Zn cls d oe → (∃ vs, oe.data = .fields vs) → tSs (X.suite a ((a, oe) :: pn)) (b₀ :: suite) D σ H) (Wout := fun _ _ _ _ => False)
    hs hf nd hi hln ⟨hg, hdb, .inl hC⟩ takes0N (fun W pn xe tk _ => ⟨fun pins s _ _ _ I h => cSs.run pins s _ _ _ I (h pn xe tk)⟩) (fun a oe cls d pn hz hv => ⟨fun pins s _ _ _ I h => cSs.run pins s _ _ _ I (h oe pn hz hv)⟩))
    (fun pn xe tk => hb pn xe F G t H nl A D _ tk fun r' G' t' H' er A' => ⟨true, hcat.is, fun _ a na oe pn hz hv => by
      subst er
      exact hsu a oe pn hz hv F G' (t'.set i (some (.ref a))) H' nl (A'.put0 hri ⟨_, rfl, rfl, .val _⟩) _ (fun r'' G'' t'' H'' m A'' => nn _ G'' _ H'' m (A''.setUn i none)) q, fun z => by cases z⟩)
end
end DL

/-! Part 45: a def that is handed the handled error; loops and makings that raise; defs that make lambdas. -/
namespace DL
open PySem PySem.Spec PyProof.Rows L2 L2H
/-! ### a def that is handed the handled error -/
structure HasE (P : Program) (w : World) (K : PySem.W.Frag) (mg : Str → Option Value) (base : Heap) (k : Nat) (x : Str) (Ce : Addr → Slot → Prop) : Prop where
  ex : ∃ f fd ps, mg x = some (.ref f) ∧ PySem.W.keepIn K (.ref f) = true ∧ Binds K fd ps [] ∧ ps.length = 1 ∧
    ∀ (A : Around) (outer : List Env) (s : Shared) (H : Hp) (args : Args) (u : Value) (Q : VK) (E : XK) (p : Addr × Obj) (c : Addr) (sl : Slot), RoomH k A → Hot1 A p → PinOk outer H s p → Env0 P w K mg base A outer s H → BindsTo s fd args (ps.zip [u]) → RelV (.ref p.1) u →
      L2N.Zn (.ref c) none p.2 → (∃ vs, p.2.data = .fields vs) → Ce c sl → (∀ v H', Ret K ⟨[], H, H⟩ sl v H' → Q v H') → codeAny (model P w) A (.call (.ref f) args) (L2.CR CX0 outer P w H s Q E) s
section
variable {P : Program} {w : World} {K : PySem.W.Frag} {mg : Str → Option Value} {base : Heap}
theorem HasE.mono {j k : Nat} {x : Str} {Ce : Addr → Slot → Prop} (h : HasE P w K mg base j x Ce) (l : j ≤ k) : HasE P w K mg base k x Ce := by
  obtain ⟨f, fd, ps, a, b, c, d, e⟩ := h
  exact ⟨f, fd, ps, a, b, c, d, fun A outer s H args u Q E p c sl hr => e A outer s H args u Q E p c sl (hr.mono l)⟩
theorem has_defE {x y : Str} {st : Stmt} {N : List Str} {k : Nat} {Ce : Addr → Slot → Prop} (T : Df K mg x st [y]) (S : FnScope N [y] (defScope st))
    (hb : ∀ c sl, Ce c sl → ∀ f cdv A outer s0 H E p, Hot1 (A.deeper (envOfC x (defScope st) s0.heap.objs.size f cdv)) p → RoomH k (A.deeper (envOfC x (defScope st) s0.heap.objs.size f cdv)) → L2N.Zn (.ref c) none p.2 → (∃ vs, p.2.data = .fields vs) →
      HS (cxh P w K mg base N x (defScope st) f cdv A outer s0 H E p) (entry N [.val (.ref p.1)]) (defBody st) (fun _ => sl = .d .non) (fun s' _ => s' = sl)) : HasE P w K mg base (k + 1) x Ce := by
  obtain ⟨f, fd, Fn, hm, bd⟩ := T
  obtain ⟨oc, od, kV, doc, pm, an, cdv, ct, osl, rfl, lk, hcd⟩ := Fn.ex
  refine ⟨f, _, [y], hm, Fn.kp, bd, rfl, fun A outer s H args u Q E p c sl hr hot pin e0 bt ru zn dv ce q => ?_⟩
  have stays : ∀ b o, base.get? b = some o → s.heap.get? b = some o := fun b o z => (e0.bs b o z).1
  have kin := e0.mod.kin.keeps stays
  have lim := e0.mod.nolimit.keeps stays
  refine codeAny_call_function hr.depth (kin _ _ lk) rfl S.co S.gen rfl (PySem.W.codeRec_of kin hcd) (bt _ _ _ _ ?_)
  refine wpAny_newFunctionEnv_cells S.kind (fun z hz => ?_) fun env he s1 x1 => ?_
  · rcases S.par z.1 (List.of_mem_zip hz).1 with m | m
    · exact Or.inl m
    · exact Or.inr ⟨m, PySem.W.cellsFrom_some _ _ _ (Or.inl m)⟩
  subst he
  have rv : Vals [V.ref p.1] [u] := .cons ru .nil
  have J : Inv (cxH CX0 P w K mg base N x (defScope st) f cdv A outer s H E p) [] (L2.start N [.ref p.1]) H s1 := inv_startH S pin e0 rfl rv x1
  have at0 : At K ⟨[], H, H⟩ H (entry N [.val (.ref p.1)]) (L2.start N [.ref p.1]) H :=
    ⟨⟨Same.refl H, Same.refl H, fun _ _ z _ => z, fun _ _ z => z, fun _ z => by cases z⟩, [], slots_start _ (.cons (.val _) .nil), by simp, fun a ha => by cases ha⟩
  have run := hb c sl ce f cdv A outer s H E p hot (hr.deeper _) zn dv ⟨[], H, H⟩ H (L2.start N [.ref p.1]) H rfl at0 { nx := fun _ H' => Q .non H', rt := Q } (fun r' G' t' H' z A' => by subst z; exact q .non H' ⟨r', t', G', A'.front .non⟩) fun s' r' v t' G' H' z A' => by subst z; exact q v H' ⟨r', t', G', A'⟩
  refine ⟨lim.keeps x1.toInCall.keep, codeAny_func (wpAny_mono ((PSs.nox (X := cxH CX0 P w K mg base N x (defScope st) f cdv A outer s H E p) cSs).run [] s1 _ H _ J run) (fun fl s' hs => ?_) fun e s' hs => hs)⟩
  cases fl with
  | ret u2 =>
    obtain ⟨v2, t2, H2, J2, r2, q2⟩ := hs
    exact ⟨v2, H2, J2.os, J2.bare, J2.base, J2.hok, r2, q2⟩
  | next =>
    obtain ⟨t2, H2, J2, q2⟩ := hs
    exact ⟨.non, H2, J2.os, J2.bare, J2.base, J2.hok, rfl, q2⟩
  | brk => exact (hs.choose_spec.choose_spec.2).elim
  | cont => exact (hs.choose_spec.choose_spec.2).elim
end
section
variable {X : Cx} {r r1 : List Slot} {e a b c0 it : Expr} {es ts : List Expr} {pos p px pT tpos : Pos} {d : D} {ds xs : List D} {x y n : Str} {k : Nat} {Ce : Addr → Slot → Prop} {c : Addr} {body rest : List Stmt} {M : List Slot → Prop}
/-- f(error) within the suite -/
theorem po_callE (i : Nat) {p0 : Addr × Obj} (h : HasE X.prog X.w X.K X.mg X.base k x Ce) (hr : RoomH k X.A) (hot : Hot1 X.A p0) (hp : p0 ∈ X.pn) (zn : L2N.Zn (.ref c) none p0.2) (dv : ∃ vs, p0.2.data = .fields vs) (hc : Ce c (.o xs)) (sc : ∀ d, d ∈ xs → Sc d)
    (hi : r[i]? = some (.d (.val (.ref p0.1))) := by rfl) (hN : X.N[i]? = some n := by rfl) (hv : Vis X.env.scope n := by first | exact Or.inl rfl | exact Or.inr (Or.inl rfl) | exact Or.inr (Or.inr rfl)) (hd : (n == ("__debug__" : Str)) = false := by decide) (hcd : (n == ("__classdict__" : Str)) = false := by decide)
    (hg : Gl X x := by rfl) (hdb : (x == ("__debug__" : Str)) = false := by decide) (he : starEach [.Name n px] X.env = (false, eval (.Name n px) X.env) :: starEach [] X.env := by rfl) (hpl : (backTo pos (starEach [] X.env)).any (·.1) = false := by rfl) :
    PO X r (.Call (.Name x p) [.Name n px] [] pos) xs := fun F G t H A Q q => by
  obtain ⟨f, fd, ps, hm, kp, bd, len, run⟩ := h
  have a1 := ab1 (pb_v (pos := px) i hi hN hv hd hcd) he F G t H A (fun vs H1 => ∃ G1, Ext G H G1 H1 ∧ vs = [.ref p0.1]) fun vs G1 H1 e1 k1 => by
    cases k1 with
    | cons k1 k2 => cases k2; cases k1; exact ⟨G1, e1, rfl⟩
  unfold tE
  intro pins s I
  refine wpAny_Call_Name_kw (ld_glob I hg hm ?_ hdb)
  refine PySem.W.callWith_K (h₀ := X.base) I.ok.mod.kin kp (thn (cA.run pos pins s t H _ I a1) fun us s1 ⟨vs, H1, I1, rv, G1, e1, ev⟩ => ⟨I1.kIn, ?_⟩) he hpl
  subst ev
  cases rv with
  | @cons _ u _ _ ru rr =>
    cases rr
    have P1 := I1.pin p0 (List.mem_append_left _ hp)
    have pin : PinOk X.stack H1 s1 p0 := ⟨P1.1, P1.2.1, fun hm => (List.mem_cons.mp (I1.stkSub p0.1 hm)).elim P1.2.2.1 P1.2.2.2.1, P1.2.2.2.2⟩
    have bb := bd s1 [u] I1.kIn (by rw [len]; rfl)
    refine wpAny_call (codeAny_mono (run X.A X.stack s1 H1 ⟨[u], []⟩ u Q E0 p0 c (.o xs) hr hot pin I1.env0 bb ru zn dv hc fun v H' ret => ?_) fun rr s' hq => ?_)
    · obtain ⟨l, vs, G', rfl, e2, nl, g, h', k2⟩ := ret.extO
      exact q l vs G1 H' ⟨e1.g, e1.gh.trans e2.h, e1.h.trans e2.h, e1.nw⟩ (e1.h.free nl) (e1.gh.free nl) h' (k2.scAny sc)
    · cases rr with
      | error e => exact False.elim hq
      | ok fl =>
        cases fl with
        | ret u => exact I1.after hq
        | next => exact False.elim hq
        | brk => exact False.elim hq
        | cont => exact False.elim hq
/-- isinstance of the handled error -/
theorem call_isH {p0 : Addr × Obj} (C : ExcC X.K c) (hp : p0 ∈ X.pn) (zn : L2N.Zn (.ref c) none p0.2) (dv : ∃ vs, p0.2.data = .fields vs) : CallR X (.builtin "isinstance") (rIsE X.K c p0.1) := fun pins s σ H xs us Q I r h => by
  obtain ⟨cv, u1, b, rfl, hu, e, q⟩ := h
  cases r with
  | cons ra rr =>
    cases rr with
    | cons rb rr =>
      cases rr
      cases ra
      cases hu _ rb
      have g := (I.pin p0 (List.mem_append_left _ hp)).1
      obtain ⟨vs, hv⟩ := dv
      have at1 : PySem.W.InstAt s.heap p0.1 p0.2 c none := by
        obtain ⟨a0, oc, od, oda, osl⟩ := p0
        obtain ⟨z1, z2, _⟩ := zn
        dsimp only at z1 z2 hv
        subst z1 z2 hv
        exact ⟨g, rfl, rfl, trivial⟩
      exact PySem.W.kia_one (PySem.W.handS_kitx_exc C.hg C.hk C.hs C.hd C.ha C.hn C.ht C.hm) I.kIn at1 e (fun z => nomatch z) fun tk => ⟨.bl b, H, I.kept (t' := tk) fun _ _ z => z, rfl, q⟩
theorem pb_isH {p0 : Addr × Obj} {C' : Addr} {b : Bool} (B : Bi X.mg) (EC : ExcC X.K c) (hp : p0 ∈ X.pn) (zn : L2N.Zn (.ref c) none p0.2) (dv : ∃ vs, p0.2.data = .fields vs) (ha : PB X r e (.val (.ref p0.1))) (hT : Mg X.mg y C') (hk : Ko X.K c C' b)
    (hgT : Gl X y := by rfl) (hxd : (y == ("__debug__" : Str)) = false := by decide) (hs : starEach [e, .Name y pT] X.env = (false, eval e X.env) :: starEach [.Name y pT] X.env := by rfl) (hg : Gl X "isinstance" := by rfl) (hpl : (backTo pos (starEach [.Name y pT] X.env)).any (·.1) = false := by rfl) :
    PB X r (.Call (.Name "isinstance" p) [e, .Name y pT] [] pos) (.bl b) :=
  pb_call1 (v := .bl b) (pe_callB (call_isH EC hp zn dv) hg B.isi (by decide +kernel) cA (he := hs) (hpl := hpl)) (ab2 ha (pb (pp_gr hT.is hgT hxd)) hs rfl) (fun vs H Q k q => by
    cases k with
    | cons k1 k2 =>
      cases k2 with
      | cons k2 k3 =>
        cases k3; cases k2; cases k1
        exact ⟨.ref C', .ref C', b, rfl, fun u z => by cases z; rfl, hk.is, q⟩) fun _ => .bl _
/-- whether an error's class is under a built-in one -/
structure KoT (K : PySem.W.Frag) (C : Addr) (T : String) (b : Bool) : Prop where
  is : PySem.W.kitOne K (.ref C) (.type T) = some b
theorem pb_isHT {p0 : Addr × Obj} {T : String} {b : Bool} (B : Bi X.mg) (EC : ExcC X.K c) (hp : p0 ∈ X.pn) (zn : L2N.Zn (.ref c) none p0.2) (dv : ∃ vs, p0.2.data = .fields vs) (ha : PB X r e (.val (.ref p0.1))) (hT : X.mg y = none) (hv : bootBuiltins y = some (.type T)) (hk : KoT X.K c T b)
    (hgT : Gl X y := by rfl) (hxn : y ≠ "__name__" := by decide) (hxd : (y == ("__debug__" : Str)) = false := by decide) (hs : starEach [e, .Name y pT] X.env = (false, eval e X.env) :: starEach [.Name y pT] X.env := by rfl) (hg : Gl X "isinstance" := by rfl) (hpl : (backTo pos (starEach [.Name y pT] X.env)).any (·.1) = false := by rfl) :
    PB X r (.Call (.Name "isinstance" p) [e, .Name y pT] [] pos) (.bl b) :=
  pb_call1 (v := .bl b) (pe_callB (call_isH EC hp zn dv) hg B.isi (by decide +kernel) cA (he := hs) (hpl := hpl)) (ab2 ha (pb (pp_ty hT hv hgT hxn hxd)) hs rfl) (fun vs H Q k q => by
    cases k with
    | cons k1 k2 =>
      cases k2 with
      | cons k2 k3 =>
        cases k3; cases k2; cases k1
        exact ⟨.ty T, .type T, b, rfl, fun u z => by cases z; rfl, hk.is, q⟩) fun _ => .bl _
/-! ### a loop that raises -/
theorem nG {tg : Expr} {v : V} {t : L2.St} {H : Hp} {Q : L2.St → Hp → Prop} (h : tG X.nox tg v t H Q) : tG X tg v t H Q := by
  unfold tG at h ⊢
  exact fun pins s u I r => wpAny_mono (h pins s u (I.wish _) r) (fun _ _ ⟨t', H', I', q⟩ => ⟨t', H', I'.unwish, q⟩) fun _ _ z => False.elim z
/-- for (a, b) in enumerate(xs): .. that raises at the turn J -/
theorem hy_forE {fpos : Pos} {kt : Nat} (B : Bi X.mg) (J : Nat) (I T : Nat → List Slot) (ha : PP X.nox r it (.lst ds)) (hJ : J < ds.length) (h0 : Le r (I 0)) (hg : ∀ (k : Nat) (d : D), k ≤ J → ds[k]? = some d → GQ X.nox (I k) (.Tuple ts kt tpos) (.tup [.int k, d]) (T k))
    (hb : ∀ (k : Nat) (d : D), k < J → ds[k]? = some d → HS X.nox (T k) body (fun r' => Le r' (I (k + 1))) (fun _ _ => False)) (hx : ∀ d, ds[J]? = some d → HY X (T J) body c M)
    (hp : PassesOwn (model X.prog X.w) X.A X.env X.xe) (hc : X.calm = true := by rfl) (hgl : Gl X "enumerate" := by rfl) (hs : starEach [it] X.env = [(false, eval it X.env)] := by rfl) (hfs : ∀ x, foldedSetIterable (.Call (.Name "enumerate" p) [it] [] pos) X.env x = pure x := by intro _; rfl) :
    HY X r (.For (.Tuple ts kt tpos) (.Call (.Name "enumerate" p) [it] [] pos) body [] fpos :: rest) c M := fun F G t H nl A D W tk w => by
  refine oSs (pss_cons (ps_for hp hc (pi_enum hgl B.enum cA hs) cG cSs hfs) cSs) (nA (aq_cons ha aq_nil hs F G t H A _ fun vs G1 H1 e1 k1 => ?_))
  cases k1 with
  | cons k1 k2 =>
    cases k2
    cases k1 with
    | @lst l vs _ h1 h2 =>
      have A1 := A.ext e1
      have hlen := h2.len
      refine ⟨l, vs, rfl, SqL.of (A1.gh _ _ h1), fun k m t' H' => m = vs.length - k ∧ k ≤ J ∧ ∃ G', Same G1 G' ∧ At X.K F G' (I k) t' H', ⟨vs.length, by simp, Nat.zero_le _, ?_⟩, ?_⟩
      · obtain ⟨G', s', A'⟩ := A1.le h0 nl
        exact ⟨G', s', A'⟩
      · rintro k m t' H' ⟨rfl, hk, G', s', A'⟩
        have hS : SqL X.K H' l vs := SqL.of (A'.gh _ _ (s' _ _ h1))
        have hlt : k < vs.length := by omega
        refine .inr ⟨⟨vs, vs[k], hS, by simp [hlt]⟩, fun t2 H2 => k + 1 ≤ J ∧ ∃ G2, Same G1 G2 ∧ At X.K F G2 (I (k + 1)) t2 H2, fun t2 H2 z => ⟨vs.length - (k + 1), by omega, rfl, z.1, z.2⟩, fun w0 H2 y => ?_⟩
        obtain ⟨T0, w1, rfl, hT, rfl, hy⟩ := y
        have hk' := hy vs hS
        obtain ⟨d, hd, kd⟩ := h2.get' hk'
        have e2 : Ext G' H' (L2.upd G' T0 (.tup [.int (k : Nat), w1])) (L2.upd H' T0 (.tup [.int (k : Nat), w1])) := Ext.new A'.gh hT
        have A2 := A'.ext e2
        refine nG (hg k d hk hd F _ t' _ (.ref T0) A2 (.tup upd_same (.cons (.int _) (.cons (Dt.mono (s'.trans e2.g) _ _ kd) .nil))) _ fun t2 A3 => ?_)
        by_cases hkJ : k < J
        · refine nSs (hb k d hkJ hd { F with G := L2.upd G' T0 (.tup [.int (k : Nat), w1]) } _ t2 _ nl A3.rebase { D with nx := _, ct := _, bk := _ } (fun r3 G3 t3 H3 l A4 => ?_) (fun s r3 v3 t3 G3 H3 hR A4 => hR.elim))
          obtain ⟨G5, s5, A5⟩ := A4.le l nl
          exact ⟨hkJ, G5, (s'.trans e2.g).trans A5.ok.g, At.unbase A3.ok A5⟩
        · have ek : k = J := by omega
          subst ek
          exact hx d hd F _ t2 _ nl A3 { D with nx := _, ct := _, bk := _ } W tk w
/-- a test that raises nothing, then a suite that does not -/
theorem hy_no {b1 : List Stmt} (hc : TQ X.nox r c0 false) (h : HY X r rest c M) : HY X r (.If c0 b1 [] pos :: rest) c M := fun F G t H nl A D W tk w =>
  oSs (pss_cons (ps_if cT cSs cSs) cSs) (nT (hc F G t H A _ fun G' H' e => oSs pss_nil (h F G' t H' nl (A.ext e) D W tk w)))
/-- a call that hands back, thrown away -/
theorem hy_exp (he : PP X.nox r e d) (k : HY X r rest c M) (hs : swapsWith e none pos.line X.env = pure false := by rfl) : HY X r (.Expr e pos :: rest) c M :=
  hy_cons (N := fun r' => r' = r) (s1_exp he rfl hs) fun _ z => z ▸ k
end
/-! ### an object whose making raises -/
structure HasNY (P : Program) (w : World) (K : PySem.W.Frag) (mg : Str → Option Value) (base : Heap) (k : Nat) (x : Str) (CA : Addr) (C : CtX) : Prop where
  ex : ∃ f fd ps, Mk K CA f ∧ mg x = some (.ref CA) ∧ FnOk P w K mg base (L2N.CX P w) k f fd ps (spX K C) ∧ Binds K fd ps []
theorem HasNY.mono {P : Program} {w : World} {K : PySem.W.Frag} {mg : Str → Option Value} {base : Heap} {j k : Nat} {x : Str} {CA : Addr} {C : CtX} (h : HasNY P w K mg base j x CA C) (l : j ≤ k) : HasNY P w K mg base k x CA C := by
  obtain ⟨f, fd, ps, c, mt, F, b⟩ := h
  exact ⟨f, fd, ps, c, mt, F.mono l, b⟩
theorem has_initY {P : Program} {w : World} {K : PySem.W.Frag} {mg : Str → Option Value} {base : Heap} {x q : Str} {CA : Addr} {st : Stmt} {ps N ns : List Str} {k : Nat} {C : CtX} (T : Di K mg x q CA st ps ns) (S : FnScope N ps (defScope st)) (hl : ∀ ds c, C ds c → ds.length = ps.length)
    (hb : ∀ ds c, C ds c → ∀ f cdv A outer s0 H E, Room k (A.deeper (envOfC q (defScope st) s0.heap.objs.size f cdv)) → HY (cxY P w K mg base N q (defScope st) f cdv A outer s0 H E) (entry N ds) (defBody st) c (fun _ => True)) : HasNY P w K mg base (k + 1) x CA C := by
  obtain ⟨f, fd, Fn, mk, b⟩ := T.ex
  refine ⟨f, fd, ps, mk, T.mgC, fun_okY Fn S (fun vs H Q E h => ?_) (fny_body fun ds c hc => hb ds c hc f), b⟩
  obtain ⟨G, ds, c, gh, da, hc, q⟩ := h
  rw [da.len]
  exact hl ds c hc
section
variable {X : Cx} {r : List Slot} {e : Expr} {es : List Expr} {pos p : Pos} {ds : List D} {x : Str} {k : Nat} {C : CtX} {CA c : Addr}
theorem py_make (h : HasNY X.prog X.w X.K X.mg X.base k x CA C) (hr : Room (k + 1) X.A) (ha : AB X.nox r (e :: es) ds) (hc : ∀ v, C (.val v :: ds) c) (hg : Gl X x := by rfl) (hdb : (x == ("__debug__" : Str)) = false := by decide)
    (he : starEach (e :: es) X.env = (false, eval e X.env) :: starEach es X.env := by rfl) (hpl : (backTo pos (starEach es X.env)).any (·.1) = false := by rfl) : PY X r (.Call (.Name x p) (e :: es) [] pos) c := fun F G t H A Q W tk w => by
  obtain ⟨f, fd, ps, mk, hm, Fo, bd⟩ := h
  have a1 := nA (ha F G t H A (fun vs H1 => ∃ G1, Ext G H G1 H1 ∧ DtAll X.K H1 vs ds) fun vs G1 H1 e1 k1 => ⟨G1, e1, k1⟩)
  unfold tE
  intro pins s I
  refine wpAny_Call_Name_kw (ld_glob I hg hm ?_ hdb)
  refine PySem.W.callWith_K (h₀ := X.base) I.ok.mod.kin mk.kp (thn (cA.run pos pins s t H _ I a1) fun us s1 ⟨vs, H1, I1, rv, G1, e1, k1⟩ => ⟨I1.kIn, ?_⟩) he hpl
  have J := Inv.made (C := CA) I1
  have n0 : H1 s1.heap.objs.size = none := I1.hok.fresh (Nat.le_refl _)
  have n1 : H1 (s1.heap.objs.size + 1) = none := I1.hok.fresh (Nat.le_succ _)
  have s2 : Same H1 (L2.upd (L2.upd H1 s1.heap.objs.size (.own (s1.heap.objs.size + 1))) (s1.heap.objs.size + 1) (.ins CA s1.heap.objs.size [])) := fun a o z => by rw [upd_ne (ne_of_none z n1), upd_ne (ne_of_none z n0)]; exact z
  have r2 : Vals (V.ref (s1.heap.objs.size + 1) :: vs) (Value.ref (s1.heap.objs.size + 1) :: us) := .cons rfl rv
  have q : spX X.K C (V.ref (s1.heap.objs.size + 1) :: vs) (L2.upd (L2.upd H1 s1.heap.objs.size (.own (s1.heap.objs.size + 1))) (s1.heap.objs.size + 1) (.ins CA s1.heap.objs.size [])) (fun v H2 => v = .non ∧ Q (.ref (s1.heap.objs.size + 1)) H2) (fun cls d H' => W cls d t H') :=
    ⟨_, .val (.ref (s1.heap.objs.size + 1)) :: ds, c, Same.refl _, .cons (.val _) (DtAll.mono s2 _ _ k1), hc _, fun G' H' e2 => w G1 H' ⟨e1.g, (e1.gh.trans s2).trans e2.h, (e1.h.trans s2).trans e2.h, e1.nw⟩⟩
  have hl : ((Value.ref (s1.heap.objs.size + 1) :: us) ++ ([] : List Value)).length = ps.length := by rw [List.append_nil, ← r2.length]; exact Fo.len _ _ _ _ q
  have bb := bd _ (Value.ref (s1.heap.objs.size + 1) :: us) J.kIn hl
  rw [List.append_nil] at bb
  refine wpAny_call (make_map (f := f) I1.kIn mk.makes mk.init (beq_iff_eq.mp mk.fn) (codeAny_mono (Fo.run _ X.stack _ _ ⟨Value.ref (s1.heap.objs.size + 1) :: us, []⟩ (Value.ref (s1.heap.objs.size + 1) :: us) _ _ _ (hr.make CA us []) (J.env0.make CA us []) bb r2 q) fun rr s' hq => ?_))
  cases rr with
  | error e => exact tk e s' (L2N.XE.of_call J (fun _ _ _ h => h) hq)
  | ok fl =>
    cases fl with
    | ret u =>
      obtain ⟨v3, H3, I3, r3, e3, q3⟩ := J.after hq
      subst e3
      exact ⟨r3, V.ref (s1.heap.objs.size + 1), H3, I3, rfl, q3⟩
    | next => exact False.elim hq
    | brk => exact False.elim hq
    | cont => exact False.elim hq
end
/-! ### defs that make lambdas -/
/-- a table as it stands -/
def TbOk (G H : Hp) (P : Addr) (q : Str) : Prop := G P = none ∧ ∃ tb : Array Value, H P = some (.tbl tb) ∧ TriplesOk tb.toList ∧ ∀ (pos : Pos) (cv : Value), codeAmong pos tb.toList = some cv → ∃ c, cv = .ref c ∧ G c = some (LamX.CodeO c q)
theorem slots_at {K : PySem.W.Frag} {G H : Hp} {r : List Slot} {t : L2.St} {fp : List Addr} {i : Nat} {s : Slot} (h : Slots K G H r t fp) (hi : r[i]? = some s) : ∃ v fp0, SlotOk K G H s v fp0 ∧ ∀ a, a ∈ fp0 → a ∈ fp := by
  obtain ⟨v, f1, f0, f2, _, h2, h3, _⟩ := h.split hi
  exact ⟨v, f0, h3, fun a ha => by rw [h2]; exact List.mem_append_right _ (List.mem_append_left _ ha)⟩
/-- what is handed back: the table at P may have grown -/
def RetTb (K : PySem.W.Frag) (G H : Hp) (P : Addr) (q : Str) (d : D) (v : V) (H' : Hp) : Prop := ∃ G', Same G G' ∧ Same G' H' ∧ (∀ a o, a ≠ P → H a = some o → H' a = some o) ∧ (∀ a, H a ≠ none → G a = none → G' a = none) ∧ TbOk G' H' P q ∧ Dt K G' v d
def spTb (K : PySem.W.Frag) (P : Addr) (q : Str) (C : Ct) : Sp := fun vs H Q _ => ∃ G ds d, Same G H ∧ DtAll K G vs ds ∧ TbOk G H P q ∧ C ds (.d d) ∧ ∀ v H', RetTb K G H P q d v H' → Q v H'
structure HasTb (Pr : Program) (w : World) (K : PySem.W.Frag) (mg : Str → Option Value) (base : Heap) (k : Nat) (x : Str) (P : Addr) (q : Str) (C : Ct) : Prop where
  ex : ∃ f fd ps, FnOk Pr w K mg base CX0 k f fd ps (spTb K P q C) ∧ mg x = some (.ref f) ∧ PySem.W.keepIn K (.ref f) = true ∧ Binds K fd ps []
theorem HasTb.mono {Pr : Program} {w : World} {K : PySem.W.Frag} {mg : Str → Option Value} {base : Heap} {j k : Nat} {x : Str} {P : Addr} {q : Str} {C : Ct} (h : HasTb Pr w K mg base j x P q C) (l : j ≤ k) : HasTb Pr w K mg base k x P q C := by
  obtain ⟨f, fd, ps, F, r⟩ := h
  exact ⟨f, fd, ps, F.mono l, r⟩
/-- a def of the text and its code object -/
structure DfC (K : PySem.W.Frag) (mg : Str → Option Value) (x : Str) (st : Stmt) (ps : List Str) (cd : Addr) : Prop where
  ex : ∃ f oc od kV doc pm an ct osl, K.lookup f = some ⟨oc, od, .func (PySem.W.fnOf x x (defArgs st) (defBody st) (defScope st) .none kV doc pm an (.ref cd) ct), osl⟩ ∧ PySem.W.codeIn K (.ref cd) x = true ∧ PySem.W.keepIn K (.ref f) = true ∧ mg x = some (.ref f) ∧ Binds K (PySem.W.fnOf x x (defArgs st) (defBody st) (defScope st) .none kV doc pm an (.ref cd) ct) ps []
/-- the state at the entry: the last name stands for the table -/
abbrev entryTb (N : List Str) (ds : List D) (P : Addr) (q : Str) : List Slot := ds.map Slot.d ++ (List.replicate (N.length - ds.length - 1) Slot.un ++ [.tb P q])
theorem slots_startTb {K : PySem.W.Frag} {G H : Hp} {P : Addr} {q : Str} (tb : TbOk G H P q) (m : Nat) : ∀ {vs : List V} {ds : List D}, DtAll K G vs ds → Slots K G H (ds.map Slot.d ++ (List.replicate m Slot.un ++ [.tb P q])) (vs.map some ++ List.replicate (m + 1) none) [P]
  | _, _, .nil => by
    induction m with
    | zero => exact Slots.cons (fp := [P]) (fps := []) ⟨rfl, tb.2⟩ .nil
    | succ m ih => exact Slots.cons (fp := []) (s := .un) (show SlotOk K G H .un none [] from rfl) ih
  | _, _, .cons h t => Slots.cons (fp := []) ⟨_, rfl, rfl, h⟩ (slots_startTb tb m t)
section
variable {Pr : Program} {w : World} {K : PySem.W.Frag} {mg : Str → Option Value} {base : Heap}
theorem has_defTb {x : Str} {st : Stmt} {ps N : List Str} {k : Nat} {C : Ct} {P cd : Addr} {q : Str} (T : DfC K mg x st ps cd) (S : FnScope N ps (defScope st)) (hl : ∀ ds s, C ds s → ds.length = ps.length) (hN : ps.length < N.length)
    (hb : ∀ ds d, C ds (.d d) → ∀ f A outer s0 H E, Room k (A.deeper (envOfC x (defScope st) s0.heap.objs.size f (.ref cd))) →
      HS (cx0 Pr w K mg base N x (defScope st) f (.ref cd) A outer s0 H E) (entryTb N ds P q) (defBody st) (fun _ => False) (fun s' r' => s' = .d d ∧ ∃ i : Nat, r'[i]? = some (Slot.tb P q))) : HasTb Pr w K mg base (k + 1) x P q C := by
  obtain ⟨f, oc, od, kV, doc, pm, an, ct, osl, lk, hcd, kp, hm, bd⟩ := T
  refine ⟨f, _, ps, fn_of lk hcd S (fun vs H Q E h => ?_) (fun A outer s H vs Q E hr h => ?_), hm, kp, bd⟩
  · obtain ⟨G, ds, d, gh, da, tb, c, q⟩ := h
    rw [da.len]
    exact hl ds _ c
  · obtain ⟨G, ds, d, gh, da, tb, c, q1⟩ := h
    have ld := hl ds _ c
    have hP : H P ≠ none := by obtain ⟨_, t0, z, _⟩ := tb; rw [z]; exact fun y => by cases y
    refine ⟨_, PSs.nox cSs, hb ds d c f A outer s H E hr ⟨[], G, cut H [P]⟩ G (L2.start N vs) H rfl ?_ _ (fun r' G' t' H' z A' => z.elim) fun s' r' v t' G' H' z A' => ?_⟩
    · refine ⟨⟨Same.refl G, gh, fun a o z _ => (cut_some z).2, fun _ _ z => z, fun _ z => by cases z⟩, [P], ?_, by simp, fun a ha => ?_⟩
      · have e : L2.start N vs = vs.map some ++ List.replicate ((N.length - ds.length - 1) + 1) none := by
          unfold L2.start
          rw [da.len]
          congr 2
          omega
        rw [e]
        exact slots_startTb tb _ da
      · have : a = P := by simpa using ha
        subst this
        exact ⟨tb.1, .inl (cut_in (by simp))⟩
    · obtain ⟨rfl, i, hi⟩ := z
      obtain ⟨ok, fp, sl, nd, fr⟩ := A'
      cases sl with
      | cons h1 h2 =>
        obtain ⟨v', ev, _, kd⟩ := h1
        cases ev
        obtain ⟨v2, fp0, ⟨rfl, tb', z1, z2, z3⟩, mem⟩ := slots_at h2 hi
        refine q1 v H' ⟨G', ok.g, ok.gh, fun a o n z => ok.h a o ((cut_out (by simpa using n)).trans z) (by simp), fun a z n => ?_, ⟨(fr P (List.mem_append_right _ (mem P (by simp)))).1, tb', z1, z2, z3⟩, kd⟩
        by_cases e : a = P
        · subst e; exact (fr a (List.mem_append_right _ (mem a (by simp)))).1
        · exact ok.nw a (by rw [show (Fr.mk [] G (cut H [P])).H a = H a from cut_out (by simpa using e)]; exact z) n
end
section
variable {X : Cx} {r : List Slot} {e : Expr} {es : List Expr} {pos p : Pos} {d : D} {ds : List D} {x : Str} {k : Nat} {C : Ct} {P : Addr} {q : Str}
/-- the call of such a def, its table a slot of ours -/
theorem pl_callTb (i : Nat) (h : HasTb X.prog X.w X.K X.mg X.base k x P q C) (hr : Room k X.A) (ha : AQ X r (e :: es) ds) (hc : C ds (.d d)) (hi : r[i]? = some (.tb P q) := by rfl) (hg : Gl X x := by rfl) (hdb : (x == ("__debug__" : Str)) = false := by decide)
    (he : starEach (e :: es) X.env = (false, eval e X.env) :: starEach es X.env := by rfl) (hpl : (backTo pos (starEach es X.env)).any (·.1) = false := by rfl) : PL X r (.Call (.Name x p) (e :: es) [] pos) d r := fun F G t H nl A Q k0 => by
  obtain ⟨f, fd, ps, Fn, hm, kp, b⟩ := h
  refine oE (pe_call Fn hr hg hm kp b .nil pass0 cA hdb he hpl) (ha F G t H A _ fun vs G1 H1 e1 k1 => ?_)
  have A1 := A.ext e1
  obtain ⟨tb, hP, ht, hz, gP, FP, up⟩ := A1.tab nl hi
  refine ⟨G1, ds, d, A1.gh, by rw [List.append_nil]; exact k1, ⟨gP, tb, hP, ht, hz⟩, hc, fun v H' ⟨G', s1, s2, s3, s4, ⟨g0, tb', y1, y2, y3⟩, kd⟩ => ?_⟩
  exact k0 v G' H' (e1.g.trans s1) (up G' H' tb' s1 s3 s4 s2 y1 y2 y3) kd
end
end DL

/-! Part 46: lambdas that capture nothing; a law that makes lambdas: its entry, its end. -/
namespace DL
open PySem PySem.Spec PyProof.Rows L2
section
variable {P : Program} {w : World} {K : PySem.W.Frag} {mg : Str → Option Value} {base : Heap}
theorem has_defDY {x : Str} {st : Stmt} {ps N : List Str} {k : Nat} {C : CtX} {dvs : List V} {dD : List D} (T : DfD K mg x st ps dvs dD) (S : FnScope N ps (defScope st)) (hl : ∀ ds c, C ds c → ds.length = ps.length)
    (hb : ∀ ds c, C ds c → ∀ f cdv A outer s0 H E, Room k (A.deeper (envOfC x (defScope st) s0.heap.objs.size f cdv)) → HY (cxY P w K mg base N x (defScope st) f cdv A outer s0 H E) (entry N ds) (defBody st) c (fun _ => True)) : HasY P w K mg base (k + 1) x dD C ∧ HasY P w K mg base (k + 1) x [] C := by
  obtain ⟨f, fd, dvals, F, hm, b, v, da, b0⟩ := T
  have O : FnOk P w K mg base (L2N.CX P w) (k + 1) f fd ps (spX K C) := F.ok S (fun vs H Q E h => by
    obtain ⟨G, ds, c, gh, da, hc, q⟩ := h
    rw [da.len]
    exact hl ds c hc) (fny_body fun ds c hc => hb ds c hc f)
  exact ⟨⟨f, fd, ps, dvals, dvs, O, hm, F.kp, b, v, da⟩, ⟨f, fd, ps, [], [], O, hm, F.kp, b0, .nil, fun _ => .nil⟩⟩
end
/-- no captured name -/
def noFree (sc : Scope) : Bool := sc.names.all fun y => !(y.2 == .free)
theorem noFree_no {sc : Scope} (h : noFree sc = true) : ∀ y ∈ sc.names, y.2 = .free → False := fun y hy e => by
  have z := List.all_eq_true.mp h y hy
  rw [e] at z
  cases z
theorem clo_none {cells : List (Str × Addr)} : ∀ {names : List (Str × NameKind)} {acc : List (Str × Addr)}, (∀ y ∈ names, y.2 = .free → False) → cloFrom cells names acc = acc
  | [], _, _ => rfl
  | (n, k) :: r, acc, h => by
    have hk : (k == NameKind.free) = false := by
      cases z : k == NameKind.free with
      | false => rfl
      | true => exact (h (n, k) (List.mem_cons_self ..) (by simpa using z)).elim
    unfold cloFrom
    rw [hk]
    exact clo_none fun y hy => h y (List.mem_cons_of_mem _ hy)
/-- the written lambda -/
def lamE (q : Str) : Expr → LF
  | .Lambda ps body sc _ => ⟨q, ps, body, sc, []⟩
  | e => ⟨q, ⟨[], [], none, [], [], none, []⟩, e, default, []⟩
def kidE : Expr → List Expr
  | .List es _ => es
  | .BinOp a _ b _ => [a, b]
  | .Call f es _ _ => f :: es
  | .UnaryOp _ a _ => [a]
  | .BoolOp _ es _ => es
  | _ => []
def kidS : Stmt → List Expr
  | .Assign _ v _ => [v]
  | .Expr v _ => [v]
  | .If c _ _ _ => [c]
  | .Return (some v) _ => [v]
  | _ => []
def inS : Stmt → List Stmt
  | .For _ _ b _ _ => b
  | .If _ b _ _ => b
  | _ => []
def noE : Expr := .Name "" ⟨0, 0, 0, 0⟩
def goE (e : Expr) : List Nat → Expr
  | [] => e
  | i :: r => goE ((kidE e).getD i noE) r
def atS (s : Stmt) (p : List Nat) : Expr := goE ((kidS s).getD 0 noE) p
def nthS (l : List Stmt) (i : Nat) : Stmt := l.getD i (.Pass ⟨0, 0, 0, 0⟩)
section
variable {X : Cx} {r : List Slot} {a : Expr} {pos : Pos} {ns : List Int}
/-- lambda .. that captures nothing -/
theorem pl_lam0 (i : Nat) {cd P : Addr} {q : Str} {ps : Arguments} {body : Expr} {sc : Scope} (L : LF) (TB : LamX.TabB X.base X.mg cd P) (hL : (⟨q, ps, body, sc, []⟩ : LF) = L := by rfl) (hn : noFree sc = true := by rfl) (hc : X.env.code = .ref cd := by rfl)
    (hi : r[i]? = some (.tb P q) := by rfl) (hq : X.env.qual ++ "<lambda>" = q := by rfl) (hd : defaultsOf ps X.env = ([], []) := by rfl) : PL X r (.Lambda ps body sc pos) (.fn L) r := by
  subst hL
  have h := pl_lam (X := X) (r := r) (body := body) (pos := pos) i TB hc (fun y hy e => (noFree_no hn y hy e).elim) hi hq hd
  rw [clo_none (noFree_no hn)] at h
  exact h
/-- script[lo:hi] -/
theorem po_cutS {lo hi : Option Expr} {zl zh : Option Int} {p2 : Pos} (ha : PP X r a (.scr ns)) (hl : EQ X r lo zl) (hh : EQ X r hi zh) : DL.PO X r (.Subscript a (.Slice lo hi none p2) pos) (cutD (ns.map .int) zl zh) := fun F G t H A Q q =>
  oE (pe_slice sl_list cE cO cO) (ha F G t H A _ fun v G1 H1 e1 k1 => eq_run hl (A.ext e1) fun G2 H2 e2 => eq_run hh ((A.ext e1).ext e2) fun G3 H3 e3 => by
    cases k1 with
    | scr h1 =>
      have e := (e1.trans e2).trans e3
      exact ⟨_, _, rfl, (e1.gh.trans (e2.h.trans e3.h)).seq h1, fun p hp => q p _ G3 _ (e.trans (Ext.newO e3.gh hp)) (e.h.free hp) (e3.gh.free hp) upd_same (dt_cut (DtAll.ints ns) zl zh)⟩)
end
/-! ### the law's entry -/
theorem sqL_cut {K : PySem.W.Frag} {H : Hp} {T : List Addr} {a : Addr} {xs : List V} (hT : ∀ p ∈ T, ∃ tb, H p = some (.tbl tb)) (h : SqL K H a xs) : SqL K (cut H T) a xs := by
  have out : ∀ {o : HO}, H a = some o → (∀ tb, o ≠ .tbl tb) → cut H T a = some o := fun z n => by
    rw [cut_out fun m => ?_]
    · exact z
    · obtain ⟨tb, y⟩ := hT a m
      rw [y] at z
      cases z
      exact n tb rfl
  rcases h with (h | ⟨o, h⟩) | h
  · exact .inl (.inl (out h fun tb z => by cases z))
  · exact .inl (.inr ⟨o, out h fun tb z => by cases z⟩)
  · exact .inr h
def tbS (T : List (Addr × Str)) : List Slot := T.map fun p => .tb p.1 p.2
theorem slots_tabs {K : PySem.W.Frag} {G H : Hp} : ∀ (T : List (Addr × Str)), (∀ p ∈ T, H p.1 = some (.tbl #[])) → Slots K G H (tbS T) (List.replicate T.length none) (T.map Prod.fst)
  | [], _ => .nil
  | p :: T, h => Slots.cons (fp := [p.1]) ⟨rfl, #[], h p (List.mem_cons_self ..), True.intro, fun pos cv z => by
      have z : codeAmong pos [] = some cv := z
      simp [codeAmong] at z⟩ (slots_tabs T fun y hy => h y (List.mem_cons_of_mem _ hy))
theorem slots_uns {K : PySem.W.Frag} {G H : Hp} {r : List Slot} {t : L2.St} {fp : List Addr} (h : Slots K G H r t fp) : ∀ m : Nat, Slots K G H (List.replicate m Slot.un ++ r) (List.replicate m none ++ t) fp
  | 0 => h
  | m + 1 => Slots.cons (fp := []) (s := .un) (show SlotOk K G H .un none [] from rfl) (slots_uns h m)
def spLaw (K : PySem.W.Frag) (T : List (Addr × Str)) : Sp := fun vs H Q _ => ∃ (a : Addr) (ns : List Int), vs = [.ref a] ∧ SqL K H a (ns.map V.int) ∧ (∀ p ∈ T, H p.1 = some (.tbl #[])) ∧ ∀ H', Q (.bl true) H'
/-- the law's def, its tables the last names -/
theorem ok_law {Pr : Program} {w : World} {K : PySem.W.Frag} {mg : Str → Option Value} {base : Heap} {x : Str} {st : Stmt} {N : List Str} {k m : Nat} {f cd : Addr} {oc kV doc pm ct : Value} {od an : Option Addr} {osl : Array (Option Value)} {T : List (Addr × Str)}
    (lk : K.lookup f = some ⟨oc, od, .func (PySem.W.fnOf x x (defArgs st) (defBody st) (defScope st) .none kV doc pm an (.ref cd) ct), osl⟩) (hcd : PySem.W.codeIn K (.ref cd) x = true) (S : FnScope N ["_law_script"] (defScope st)) (hN : N.length = 1 + m + T.length) (nd : (T.map Prod.fst).Nodup)
    (hb : ∀ ns f A outer s0 H E, Room k (A.deeper (envOfC x (defScope st) s0.heap.objs.size f (.ref cd))) →
      HS (cx0 Pr w K mg base N x (defScope st) f (.ref cd) A outer s0 H E) (.d (.scr ns) :: (List.replicate m Slot.un ++ tbS T)) (defBody st) (fun _ => False) (fun s' _ => s' = .d (.bl true))) :
    FnOk Pr w K mg base CX0 (k + 1) f (PySem.W.fnOf x x (defArgs st) (defBody st) (defScope st) .none kV doc pm an (.ref cd) ct) ["_law_script"] (spLaw K T) := by
  refine fn_of lk hcd S (fun vs H Q E ⟨a, ns, h, _⟩ => by rw [h]; rfl) fun A outer s H vs Q E hr h => ?_
  obtain ⟨a, ns, rfl, hS, hT, q⟩ := h
  have isT : ∀ p ∈ T.map Prod.fst, ∃ tb, H p = some (.tbl tb) := fun p hp => by
    obtain ⟨y, hy, rfl⟩ := List.mem_map.mp hp
    exact ⟨_, hT y hy⟩
  refine ⟨_, PSs.nox cSs, hb ns f A outer s H E hr ⟨[], cut H (T.map Prod.fst), cut H (T.map Prod.fst)⟩ (cut H (T.map Prod.fst)) (L2.start N [.ref a]) H rfl ?_ _ (fun _ _ _ _ z _ => z.elim) fun s' r' v t' G' H' z A' => ?_⟩
  · refine ⟨⟨Same.refl _, fun b o z => (cut_some z).2, fun b o z _ => (cut_some z).2, fun b z n => n, fun b z => by cases z⟩, T.map Prod.fst, ?_, nd, fun b hb => ⟨cut_in hb, .inl (cut_in hb)⟩⟩
    have e : L2.start N [.ref a] = some (V.ref a) :: (List.replicate m none ++ List.replicate T.length none) := by
      unfold L2.start
      rw [List.replicate_append_replicate, hN]
      show some (V.ref a) :: List.replicate (1 + m + T.length - 1) none = _
      congr 2
      omega
    rw [e]
    exact Slots.cons (fp := []) ⟨_, rfl, rfl, .scr (sqL_cut isT hS)⟩ (slots_uns (slots_tabs T hT) m)
  · subst z
    obtain ⟨_, _, sl, _⟩ := A'
    cases sl with
    | cons h1 _ =>
      obtain ⟨v1, e1, _, k1⟩ := h1
      cases e1
      cases k1
      exact q H'
/-- the claim, from the law's def over its tables -/
theorem walk_tab {l : PySem.W.OpenLaw} {n k : Nat} {q : Program} {loose : List Str} {XP : (Str → Option Value) → Heap → Prop} {YP : World → Heap → Prop} {d : DefRec} {K : Params → PySem.W.Frag} {x : Str}
    (hn : l.most = some n) (hn2 : n ≤ sizeLine) (hdf : d.params.defaults = []) (hr : Room k callerA) (hY : ∀ (w : World) (h : Heap), YP w h → (K w.params).In h)
    (F : ∀ (w : World) (mg mb : Str → Option Value) (mean : ExcName → Option Value) (fa : Addr) (h : Heap), Top q (PySem.W.looseW q loose) mean mg mb h → (K w.params).In h → h.Ns mainGlobals mg → mg d.name = some (.ref fa) →
      ∃ (fd : FuncData) (cs : List (Addr × Addr)) (T : List (Addr × Str)), (∀ p ∈ T, ∃ y ∈ cs, y.2 = p.1) ∧ (∀ p ∈ cs, (K w.params).lookup p.2 = none) ∧ (∀ p ∈ cs, PySem.W.CodeHd h p.1 p.2 ∧ h.get? p.2 = some (PySem.W.tabObj #[])) ∧ (∀ (s : Shared) (u : Value), BindsTo s fd ⟨[u], []⟩ [(x, u)]) ∧
        ∀ base : Heap, (K w.params).In base → base.Ns mainGlobals mg → (∀ p ∈ cs, LamX.TabB base mg p.1 p.2) → FnOk l.prog w (K w.params) mg base CX0 k fa fd [x] (spLaw (K w.params) T)) :
    PySem.W.WalkO q loose XP YP l.row.toRowW d [] (fun f vs => PySem.call f vs) := by
  refine Att.attach_callB hn hdf fun w s₀ s₁ mg mb fa o pm cd doc a vs ns G Y ho hd hcd hmg hobj hints hlen hbits hg => ?_
  have KX := hY w _ Y
  obtain ⟨fd, cs, T, hT, nT, hC, hb, hF⟩ := F w mg mb _ fa _ G.T KX G.T.g hmg
  refine LamX.law_callTs (CX := CX0) (sp := spLaw (K w.params) T) KX G.T.g G.T.b G.T.builtins G.T.nolimit hg (fun p hp => (hC p hp).2) nT (fun p hp => (hC p hp).1) G.T.bmain hobj hints (Nat.le_trans hlen hn2) hr hF hb (fun H hH hS => ?_) fun H e s' z => z
  refine ⟨a, ns, rfl, hS, fun p hp => ?_, fun _ => rfl⟩
  obtain ⟨y, hy, e⟩ := hT p hp
  rw [← e]
  exact hH y hy
/-- a name that the module leaves alone -/
structure Nn (mg : Str → Option Value) (x : Str) : Prop where
  is : mg x = none
/-- a def whose code object bears a table -/
theorem dfC_mk {K : PySem.W.Frag} {mg : Str → Option Value} {h : Heap} {x : Str} {st : Stmt} {ps : List Str} {f cd : Addr} {oc kV doc pm ct : Value} {od an : Option Addr} {osl : Array (Option Value)} (X : K.In h) (G : h.Ns mainGlobals mg) (a : PySem.W.nsIn K mainGlobals x = some (some (.ref f)))
    (l : K.lookup f = some ⟨oc, od, .func (PySem.W.fnOf x x (defArgs st) (defBody st) (defScope st) .none kV doc pm an (.ref cd) ct), osl⟩) (c : PySem.W.codeIn K (.ref cd) x = true) (k : PySem.W.keepIn K (.ref f) = true)
    (hb : ∀ (kV doc pm : Value) (an : Option Addr) (cdv ct : Value) (us : List Value), us.length = ps.length → bindArgs (PySem.W.fnOf x x (defArgs st) (defBody st) (defScope st) .none kV doc pm an cdv ct) ⟨us, []⟩ = pure (ps.zip us)) : DfC K mg x st ps cd :=
  ⟨f, oc, od, kV, doc, pm, an, ct, osl, l, c, k, PySem.W.mg_of X G a, fun s us _ hl => .of_eq (by rw [List.append_nil] at hl ⊢; exact hb _ _ _ _ _ _ us hl)⟩
end DL
namespace DL
open PySem PySem.Spec PyProof.Rows L2
theorem plo_is {X : Cx} {r r1 : List Slot} {e : Expr} {xs ys : List D} (h : PLO X r e xs r1) (q : xs = ys) : PLO X r e ys r1 := q ▸ h
theorem cutD_le (xs : List D) (lo hi : Option Int) : (cutD xs lo hi).length ≤ xs.length := by
  unfold cutD
  rw [List.length_take, List.length_drop]
  omega
end DL

/-! Part 47: a method of an object just made. -/
namespace DL
open PySem PySem.Spec PyProof.Rows L2
section
variable {X : Cx} {r : List Slot} {e a : Expr} {es : List Expr} {pos apos : Pos} {d : D} {ds : List D} {C : Addr} {fs fs' : List (Str × Fld)} {m : Str} {k : Nat} {Cl : CtL}
/-- C(..).m(e, ..) -/
theorem pb_methN {pl : Sem Bool} (h : HasL X.prog X.w X.K X.mg X.base k C m Cl) (hr : Room k X.A) (ho : PN X r a C fs) (ha : AQ X r (e :: es) ds) (hc : Cl fs ds (.d d) fs') (hn : m ∉ fs.map Prod.fst := by decide)
    (hst : starEach (e :: es) X.env = (false, eval e X.env) :: starEach es X.env := by rfl) (hpl : (backTo pos (starEach es X.env)).any (·.1) = false := by rfl)
    (ht : eval (.Call (.Attribute a m apos) (e :: es) [] pos) X.env = (do
      let ov ← eval a X.env
      standAt apos.atName
      let (f, first) ← holding [ov] (getMethod ov m pl)
      callWith pos f first (backTo pos (starEach (e :: es) X.env)) (backToKw pos (keywordEach [] X.env))) := by rfl) : PB X r (.Call (.Attribute a m apos) (e :: es) [] pos) d := fun F G t H A Q q => by
  obtain ⟨f, fd, ps, c, mt, Fn, b⟩ := h
  refine oE (pe_meth (pl := pl) cE c mt Fn hr b .nil pass0 cA hst hpl ht) (ho F G t H A _ fun y dx vs fps G1 H1 e1 hy fk nd nw => ?_)
  obtain ⟨ws, hws, hl, _⟩ := fk.toD e1.gh
  refine ⟨y, dx, vs, rfl, hy, by rw [hws]; exact look_none hn, ha F G1 t H1 (A.ext e1) _ fun us G2 H2 e2 k2 => ?_⟩
  rw [List.append_nil]
  have some1 : ∀ z, z ∈ y :: fps → H1 z ≠ none := fun z hz => by
    rcases List.mem_cons.mp hz with rfl | hz
    · rw [hy]; exact fun w => by cases w
    · exact fk.has z hz
  refine ⟨G2, y, dx, vs, fps, us, ds, fs, .d d, fs', rfl, e2.h _ _ hy, e2.gh, fk.frame e2.g (fun z o _ w => e2.h z o w), nd, fun z hz => e2.nw z (some1 z hz) (nw z hz).2, k2, hc, fun v H' ⟨r', t', G', A'⟩ => ?_⟩
  have keep : Same H H' := fun z o w => by
    have out : z ∉ y :: fps := fun m => by rw [(nw z m).1] at w; cases w
    exact A'.ok.h z o ((cut_out out).trans (e2.h _ _ (e1.h _ _ w))) (by simp)
  have gh' := A'.gh
  obtain ⟨_, fp, sl, _⟩ := A'
  cases sl with
  | cons h1 _ =>
    obtain ⟨v1, ev, _, kv⟩ := h1
    cases ev
    exact q v G H' ⟨Same.refl G, A.gh.trans keep, keep, fun _ _ z => z⟩ (Dt.mono gh' _ _ kv)
end
end DL

namespace R
open PySem PySem.Spec PyProof.Rows L2 DL
def top (i : Nat) : Stmt := PySem.Challenge.pw_roundsteps_k14_refused_rings.main.body.getD i (.Pass ⟨0, 0, 0, 0⟩)
abbrev s_is_whole : Stmt := top 16
theorem sc_is_whole : FnScope ["thing"] ["thing"] (defScope s_is_whole) := ⟨rfl, rfl, rfl, by decide +kernel, rfl, by decide +kernel, by decide +kernel⟩
abbrev s_within : Stmt := top 17
theorem sc_within : FnScope ["thing", "low", "high"] ["thing", "low", "high"] (defScope s_within) := ⟨rfl, rfl, rfl, by decide +kernel, rfl, by decide +kernel, by decide +kernel⟩
abbrev s_check_ring : Stmt := top 18
theorem sc_check_ring : FnScope ["ring", "most"] ["ring", "most"] (defScope s_check_ring) := ⟨rfl, rfl, rfl, by decide +kernel, rfl, by decide +kernel, by decide +kernel⟩
abbrev s_check_steps : Stmt := top 19
theorem sc_check_steps : FnScope ["steps", "most", "at", "step"] ["steps", "most"] (defScope s_check_steps) := ⟨rfl, rfl, rfl, by decide +kernel, rfl, by decide +kernel, by decide +kernel⟩
abbrev s_check_place : Stmt := top 20
theorem sc_check_place : FnScope ["ring", "place"] ["ring", "place"] (defScope s_check_place) := ⟨rfl, rfl, rfl, by decide +kernel, rfl, by decide +kernel, by decide +kernel⟩
abbrev s_common : Stmt := top 21
theorem sc_common : FnScope ["one", "other"] ["one", "other"] (defScope s_common) := ⟨rfl, rfl, rfl, by decide +kernel, rfl, by decide +kernel, by decide +kernel⟩
abbrev s_Come___init__ : Stmt := inClass (top 24) 0
theorem sc_Come___init__ : FnScope ["self", "way", "heights"] ["self", "way", "heights"] (defScope s_Come___init__) := ⟨rfl, rfl, rfl, by decide +kernel, rfl, by decide +kernel, by decide +kernel⟩
abbrev s_Come_shows : Stmt := inClass (top 24) 1
theorem sc_Come_shows : FnScope ["self", "ring", "steps", "one", "other", "place", "height", "step"] ["self", "ring", "steps", "one", "other"] (defScope s_Come_shows) := ⟨rfl, rfl, rfl, by decide +kernel, rfl, by decide +kernel, by decide +kernel⟩
abbrev s_Never___init__ : Stmt := inClass (top 25) 0
theorem sc_Never___init__ : FnScope ["self", "part"] ["self", "part"] (defScope s_Never___init__) := ⟨rfl, rfl, rfl, by decide +kernel, rfl, by decide +kernel, by decide +kernel⟩
abbrev s_Never_shows : Stmt := inClass (top 25) 1
theorem sc_Never_shows : FnScope ["self", "ring", "steps", "one", "other", "number"] ["self", "ring", "steps", "one", "other"] (defScope s_Never_shows) := ⟨rfl, rfl, rfl, by decide +kernel, rfl, by decide +kernel, by decide +kernel⟩
abbrev s_end_of : Stmt := top 30
theorem sc_end_of : FnScope ["ring", "steps", "place", "way", "at"] ["ring", "steps", "place", "way"] (defScope s_end_of) := ⟨rfl, rfl, rfl, by decide +kernel, rfl, by decide +kernel, by decide +kernel⟩
abbrev s_common_of : Stmt := top 32
theorem sc_common_of : FnScope ["numbers", "found", "number"] ["numbers"] (defScope s_common_of) := ⟨rfl, rfl, rfl, by decide +kernel, rfl, by decide +kernel, by decide +kernel⟩
abbrev s_spread : Stmt := top 40
theorem sc_spread : FnScope ["ring", "steps", "place", "counts", "last", "line", "more", "here", "at", "step", "there"] ["ring", "steps", "place"] (defScope s_spread) := ⟨rfl, rfl, rfl, by decide +kernel, rfl, by decide +kernel, by decide +kernel⟩
abbrev s_way_back : Stmt := top 41
theorem sc_way_back : FnScope ["ring", "steps", "last", "one", "other", "found"] ["ring", "steps", "last", "one", "other"] (defScope s_way_back) := ⟨rfl, rfl, rfl, by decide +kernel, rfl, by decide +kernel, by decide +kernel⟩
abbrev s_told : Stmt := top 42
theorem sc_told : FnScope ["ring", "steps", "one", "other", "counts", "last", "heights", "count"] ["ring", "steps", "one", "other"] (defScope s_told) := ⟨rfl, rfl, rfl, by decide +kernel, rfl, by decide +kernel, by decide +kernel⟩
abbrev s_nearest : Stmt := top 43
theorem sc_nearest : FnScope ["ring", "steps", "place"] ["ring", "steps", "place"] (defScope s_nearest) := ⟨rfl, rfl, rfl, by decide +kernel, rfl, by decide +kernel, by decide +kernel⟩
abbrev s_far_of : Stmt := top 44
theorem sc_far_of : FnScope ["ring", "steps", "counts"] ["ring", "steps"] (defScope s_far_of) := ⟨rfl, rfl, rfl, by decide +kernel, rfl, by decide +kernel, by decide +kernel⟩
abbrev s_far : Stmt := top 45
theorem sc_far : FnScope ["ring", "steps"] ["ring", "steps"] (defScope s_far) := ⟨rfl, rfl, rfl, by decide +kernel, rfl, by decide +kernel, by decide +kernel⟩
abbrev s_added : Stmt := top 48
theorem sc_added : FnScope ["ring", "steps", "best", "step", "reach"] ["ring", "steps"] (defScope s_added) := ⟨rfl, rfl, rfl, by decide +kernel, rfl, by decide +kernel, by decide +kernel⟩
abbrev s_twos : Stmt := top 49
theorem sc_twos : FnScope ["ring", "steps"] ["ring", "steps"] (defScope s_twos) := ⟨rfl, rfl, rfl, by decide +kernel, rfl, by decide +kernel, by decide +kernel⟩
abbrev s_told_back : Stmt := top 51
theorem sc_told_back : FnScope ["ring", "places", "place", "at", "due", "steps"] ["ring", "places"] (defScope s_told_back) := ⟨rfl, rfl, rfl, by decide +kernel, rfl, by decide +kernel, by decide +kernel⟩
abbrev s_check_all : Stmt := top 55
theorem sc_check_all : FnScope ["ring", "steps", "one", "other", "many"] ["ring", "steps", "one", "other", "many"] (defScope s_check_all) := ⟨rfl, rfl, rfl, by decide +kernel, rfl, by decide +kernel, by decide +kernel⟩
abbrev s_how_many : Stmt := top 56
theorem sc_how_many : FnScope ["ring", "steps", "one", "other", "many"] ["ring", "steps", "one", "other", "many"] (defScope s_how_many) := ⟨rfl, rfl, rfl, by decide +kernel, rfl, by decide +kernel, by decide +kernel⟩
abbrev s_way_by : Stmt := top 57
theorem sc_way_by : FnScope ["ring", "steps", "one", "other", "many", "number", "rows", "found", "here", "left", "at"] ["ring", "steps", "one", "other", "many", "number"] (defScope s_way_by) := ⟨rfl, rfl, rfl, by decide +kernel, rfl, by decide +kernel, by decide +kernel⟩
abbrev s_number_of : Stmt := top 58
theorem sc_number_of : FnScope ["ring", "steps", "way", "at", "end", "rows", "here", "found", "turn", "left", "step"] ["ring", "steps", "way"] (defScope s_number_of) := ⟨rfl, rfl, rfl, by decide +kernel, rfl, by decide +kernel, by decide +kernel⟩
abbrev s_after : Stmt := top 60
theorem sc_after : FnScope ["ring", "steps", "place", "many"] ["ring", "steps", "place", "many"] (defScope s_after) := ⟨rfl, rfl, rfl, by decide +kernel, rfl, by decide +kernel, by decide +kernel⟩
abbrev s_every : Stmt := top 61
theorem sc_every : FnScope ["ring", "steps", "part", "bits", "many", "late", "place"] ["ring", "steps"] (defScope s_every) := ⟨rfl, rfl, rfl, by decide +kernel, rfl, by decide +kernel, by decide +kernel⟩
abbrev s_judged : Stmt := top 66
theorem sc_judged : FnScope ["ring", "steps", "place", "tale", "entry", "line"] ["ring", "steps", "place", "tale"] (defScope s_judged) := ⟨rfl, rfl, rfl, by decide +kernel, rfl, by decide +kernel, by decide +kernel⟩
abbrev s_Walker___init__ : Stmt := inClass (top 68) 0
theorem sc_Walker___init__ : FnScope ["self", "ring", "steps", "place"] ["self", "ring", "steps", "place"] (defScope s_Walker___init__) := ⟨rfl, rfl, rfl, by decide +kernel, rfl, by decide +kernel, by decide +kernel⟩
abbrev s_Walker_stand : Stmt := inClass (top 68) 1
theorem sc_Walker_stand : FnScope ["self", "word", "here"] ["self", "word"] (defScope s_Walker_stand) := ⟨rfl, rfl, rfl, by decide +kernel, rfl, by decide +kernel, by decide +kernel⟩
abbrev s_Walker_go : Stmt := inClass (top 68) 2
theorem sc_Walker_go : FnScope ["self", "step"] ["self", "step"] (defScope s_Walker_go) := ⟨rfl, rfl, rfl, by decide +kernel, rfl, by decide +kernel, by decide +kernel⟩
abbrev s_Walker_back : Stmt := inClass (top 68) 3
theorem sc_Walker_back : FnScope ["self"] ["self"] (defScope s_Walker_back) := ⟨rfl, rfl, rfl, by decide +kernel, rfl, by decide +kernel, by decide +kernel⟩
abbrev s__law_kinds : Stmt := top 71
theorem sc__law_kinds : FnScope ["_law_error", "_law_found"] ["_law_error"] (defScope s__law_kinds) := ⟨rfl, rfl, rfl, by decide +kernel, rfl, by decide +kernel, by decide +kernel⟩
abbrev s__law_refused : Stmt := top 72
theorem sc__law_refused : FnScope ["_law_ask", "_law_thing", "_law_which", "_law_sorts", "_law_error", "_law_at"] ["_law_ask", "_law_thing", "_law_which"] (defScope s__law_refused) := ⟨rfl, rfl, rfl, by decide +kernel, rfl, by decide +kernel, by decide +kernel⟩
abbrev s__law_all : Stmt := top 73
theorem sc__law_all : FnScope ["_law_asks", "_law_things", "_law_which", "_law_ask", "_law_thing"] ["_law_asks", "_law_things", "_law_which"] (defScope s__law_all) := ⟨rfl, rfl, rfl, by decide +kernel, rfl, by decide +kernel, by decide +kernel⟩
abbrev s__law_strange : Stmt := top 74
theorem sc__law_strange : FnScope ["_law_great"] ["_law_great"] (defScope s__law_strange) := ⟨rfl, rfl, rfl, by decide +kernel, rfl, by decide +kernel, by decide +kernel⟩
abbrev s__law_no_steps : Stmt := top 75
theorem sc__law_no_steps : FnScope ["_law_great", "_law_found", "_law_one", "_law_spot"] ["_law_great"] (defScope s__law_no_steps) := ⟨rfl, rfl, rfl, by decide +kernel, rfl, by decide +kernel, by decide +kernel⟩
abbrev s__law_steps_right : Stmt := top 76
theorem sc__law_steps_right : FnScope ["_law_great", "_law_asks"] ["_law_great"] (defScope s__law_steps_right) := ⟨rfl, rfl, rfl, by decide +kernel, rfl, by decide +kernel, by decide +kernel⟩
abbrev s__law_places_right : Stmt := top 77
theorem sc__law_places_right : FnScope ["_law_great", "_law_asks"] ["_law_great"] (defScope s__law_places_right) := ⟨rfl, rfl, rfl, by decide +kernel, rfl, by decide +kernel, by decide +kernel⟩
abbrev s_law : Stmt := top 78
theorem sc_law : FnScope ["_law_script", "_law_cell", "_law_great", "_law_asks"] ["_law_script"] (defScope s_law) := ⟨rfl, rfl, rfl, by decide +kernel, rfl, by decide +kernel, by decide +kernel⟩
/-! ### rings.py -/
/-- a ring and steps as they are due -/
structure RS (ring : Int) (steps : List Int) : Prop where
  lo : 1 ≤ ring
  hi : ring ≤ 60
  l1 : 1 ≤ steps.length
  l6 : steps.length ≤ 6
  rg : ∀ s, s ∈ steps → 1 ≤ s ∧ s ≤ 60
  up : steps.Pairwise (· < ·)
theorem rs_of {ring : Int} {steps : List Int} (h : 1 ≤ ring ∧ ring ≤ 60 ∧ 1 ≤ steps.length ∧ steps.length ≤ 6 ∧ (∀ s, s ∈ steps → 1 ≤ s ∧ s ≤ 60) ∧ steps.Pairwise (· < ·)) : RS ring steps := ⟨h.1, h.2.1, h.2.2.1, h.2.2.2.1, h.2.2.2.2.1, h.2.2.2.2.2⟩
section
variable {P : Program} {w : World} {K : PySem.W.Frag} {mg : Str → Option Value} {base : Heap}
def C_is_whole : Ct := fun ds s => ∃ i, ds = [.int i] ∧ s = .d (.bl true)
theorem h_is_whole (B : Bi mg) (T : Df K mg "is_whole" s_is_whole ["thing"]) : Has P w K mg base 1 "is_whole" [] C_is_whole := by
  refine has_def T sc_is_whole ?_ ?_
  · rintro ds s ⟨d, rfl, _⟩; rfl
  rintro ds s ⟨i, rfl, rfl⟩ f cdv A outer s0 H E hr
  exact hs_ret (pp_s (pb_and (pb_isi (T := "int") (k := true) B (pb_v 0) B.int (by decide +kernel) rfl (by decide +kernel)) fun _ => pb_one (pb_not (pb_isi (T := "bool") (k := false) B (pb_v 0) B.bool (by decide +kernel) rfl (by decide +kernel))))) rfl
theorem ct_is_whole {i : Int} : C_is_whole [.int i] (.d (.bl true)) := ⟨_, rfl, rfl⟩
def C_within : Ct := fun ds s => ∃ i j k, ds = [.int i, .int j, .int k] ∧ s = .d (.bl (decide (j ≤ i) && decide (i ≤ k)))
theorem h_within (B : Bi mg) (T : Df K mg "within" s_within ["thing", "low", "high"]) (His_whole : Has P w K mg base 1 "is_whole" [] C_is_whole) : Has P w K mg base 2 "within" [] C_within := by
  refine has_def T sc_within ?_ ?_
  · rintro ds s ⟨i, j, k, rfl, _⟩; rfl
  rintro ds s ⟨i, j, k, rfl, rfl⟩ f cdv A outer s0 H E hr
  exact hs_ret (pp_s (pb_and (pb_call His_whole hr (ab_cons (pb_v 0) ab_nil) ct_is_whole) fun _ => pb_one (pb_lele (pb_v 1) (pb_v 0) (pb_v 2)))) rfl
theorem ct_within {i j k : Int} : C_within [.int i, .int j, .int k] (.d (.bl (decide (j ≤ i) && decide (i ≤ k)))) := ⟨_, _, _, rfl, rfl⟩
theorem in_yes {i j k : Int} (h1 : j ≤ i) (h2 : i ≤ k) : (decide (j ≤ i) && decide (i ≤ k)) = true := by rw [decide_eq_true h1, decide_eq_true h2]; rfl
theorem not_yes {b : Bool} (h : b = true) : (!b) = false := by rw [h]; rfl
def C_check_ring : Ct := fun ds s => ∃ ring most, ds = [.int ring, .int most] ∧ 1 ≤ ring ∧ ring ≤ most ∧ s = .d .non
theorem h_check_ring (B : Bi mg) (T : DfD K mg "check_ring" s_check_ring ["ring", "most"] [.int 60] [.int 60]) (Hwithin : Has P w K mg base 2 "within" [] C_within) : Has P w K mg base 3 "check_ring" [.int 60] C_check_ring ∧ Has P w K mg base 3 "check_ring" [] C_check_ring := by
  refine has_defD T sc_check_ring ?_ ?_
  · rintro ds s ⟨_, _, rfl, _⟩; rfl
  rintro ds s ⟨ring, most, rfl, h1, h2, rfl⟩ f cdv A outer s0 H E hr
  exact hs_no (tq_is (tq_not (tq_v (pb_call Hwithin hr (ab_cons (pb_v 0) (ab_cons pb_n (ab_cons (pb_v 1) ab_nil))) ct_within))) (not_yes (in_yes h1 h2))) (hs_nil rfl)
theorem ct_check_ring {ring most : Int} (h1 : 1 ≤ ring) (h2 : ring ≤ most) : C_check_ring [.int ring, .int most] (.d .non) := ⟨_, _, rfl, h1, h2, rfl⟩
def C_check_steps : Ct := fun ds s => ∃ steps most, ds = [.ints steps, .int most] ∧ 1 ≤ steps.length ∧ (steps.length : Int) ≤ most ∧ (∀ z, z ∈ steps → 1 ≤ z ∧ z ≤ 60) ∧ steps.Pairwise (· < ·) ∧ s = .d .non
theorem rise_at {l : List Int} (h : l.Pairwise (· < ·)) {i j : Nat} {x y : Int} (hij : i < j) (hx : l[i]? = some x) (hy : l[j]? = some y) : x < y := by
  obtain ⟨hi, rfl⟩ := List.getElem?_eq_some_iff.mp hx
  obtain ⟨hj, rfl⟩ := List.getElem?_eq_some_iff.mp hy
  exact List.pairwise_iff_getElem.mp h i j hi hj hij
theorem h_check_steps (B : Bi mg) (T : DfD K mg "check_steps" s_check_steps ["steps", "most"] [.int 6] [.int 6]) (MFARTHEST : Gc mg "FARTHEST" 60) (Hwithin : Has P w K mg base 2 "within" [] C_within) : Has P w K mg base 3 "check_steps" [.int 6] C_check_steps ∧ Has P w K mg base 3 "check_steps" [] C_check_steps := by
  refine has_defD T sc_check_steps ?_ ?_
  · rintro ds s ⟨_, _, rfl, _⟩; rfl
  rintro ds s ⟨steps, most, rfl, h1, h2, h3, h4, rfl⟩ f cdv A outer s0 H E hr
  have nd := sc_check_steps.nd
  refine hs_no (tq_is (tq_w (wq_or (tq_not (tq_v (pb_isi (T := "list") (k := true) B (pb_v 0) B.list (by decide +kernel) rfl (by decide +kernel)))) fun _ => (wq_or1 (tq_not (tq_lele pb_n (pb_len B (pb_v 0)) (pb_v 1)))))) ?_) ?_
  · rw [List.length_map]
    exact not_yes (in_yes (by omega) h2)
  refine hs_cons (M := fun r => r = [.is steps, .i most, .un, .un]) (s1_forEI B 2 3 nd (fun k => [.is steps, .i most, .un, .un]) (pp_v 0) Le.refl (fun k z hz => ?_) rfl) ?_
  · have hzm := h3 z (List.mem_of_getElem? hz)
    refine hs_cons (M := fun r => r = [.is steps, .i most, .i k, .i z]) ?_ ?_
    · by_cases hk : 0 < k
      · obtain ⟨y, hy⟩ : ∃ y, steps[k - 1]? = some y := ⟨_, List.getElem?_eq_getElem (by have := (List.getElem?_eq_some_iff.mp hz).1; omega)⟩
        have hyz := rise_at h4 (by omega : k - 1 < k) hy hz
        refine s1_if (k := false) (tq_is (tq_w (wq_or (tq_not (tq_v (pb_call Hwithin hr (ab_cons (pb_v 3) (ab_cons pb_n (ab_cons (pb_gc MFARTHEST) ab_nil))) ct_within))) fun _ => (wq_or1 (tq_w (wq_and (tq_cmp cr_gt (pb_v 2) pb_n) fun _ => (wq_and1 (tq_cmp cr_ge (pb_ix (d := .int y) (pb_v 0) (pb_sub (pb_v 2) pb_n) (at_int ?_)) (pb_v 3)))))))) ?_) (fun h => by cases h) fun _ => hs_nil rfl
        · have e : ((k : Int) - 1) = ((k - 1 : Nat) : Int) := by omega
          rw [e]; exact atI_nat hy
        · rw [not_yes (in_yes hzm.1 hzm.2), decide_eq_false (by omega : ¬ z ≤ y)]; simp
      · refine s1_if (k := false) (tq_is (tq_w (wq_or (tq_not (tq_v (pb_call Hwithin hr (ab_cons (pb_v 3) (ab_cons pb_n (ab_cons (pb_gc MFARTHEST) ab_nil))) ct_within))) fun _ => (wq_or1 (tq_w (wq_and (k' := false) (tq_cmp cr_gt (pb_v 2) pb_n) fun h => absurd (of_decide_eq_true h) (by omega)))))) ?_) (fun h => by cases h) fun _ => hs_nil rfl
        rw [not_yes (in_yes hzm.1 hzm.2)]; simp
    · rintro _ rfl
      exact hs_nil (.same (.same (.drop (.drop .nil))))
  · rintro _ rfl
    exact hs_nil rfl
theorem ct_check_steps {steps : List Int} {most : Int} (h1 : 1 ≤ steps.length) (h2 : (steps.length : Int) ≤ most) (h3 : ∀ z, z ∈ steps → 1 ≤ z ∧ z ≤ 60) (h4 : steps.Pairwise (· < ·)) : C_check_steps [.ints steps, .int most] (.d .non) := ⟨_, _, rfl, h1, h2, h3, h4, rfl⟩
theorem ct_check_steps6 {ring : Int} {steps : List Int} (h : RS ring steps) : C_check_steps [.ints steps, .int 6] (.d .non) := ct_check_steps h.l1 (by have := h.l6; omega) h.rg h.up
end

section
variable {P : Program} {w : World} {K : PySem.W.Frag} {mg : Str → Option Value} {base : Heap}
def C_check_place : Ct := fun ds s => ∃ ring place, ds = [.int ring, .int place] ∧ 0 ≤ place ∧ place < ring ∧ s = .d .non
theorem h_check_place (B : Bi mg) (T : Df K mg "check_place" s_check_place ["ring", "place"]) (Hwithin : Has P w K mg base 2 "within" [] C_within) : Has P w K mg base 3 "check_place" [] C_check_place := by
  refine has_def T sc_check_place ?_ ?_
  · rintro ds s ⟨i, j, rfl, _⟩; rfl
  rintro ds s ⟨ring, place, rfl, h1, h2, rfl⟩ f cdv A outer s0 H E hr
  exact hs_no (tq_is (tq_not (tq_v (pb_call Hwithin hr (ab_cons (pb_v 1) (ab_cons pb_n (ab_cons (pb_sub (pb_v 0) pb_n) ab_nil))) ct_within))) (not_yes (in_yes h1 (by omega)))) (hs_nil rfl)
theorem ct_check_place {ring place : Int} (h1 : 0 ≤ place) (h2 : place < ring) : C_check_place [.int ring, .int place] (.d .non) := ⟨_, _, rfl, h1, h2, rfl⟩
end

/-! ### what is refused: the checks -/
def okI (lo hi : Int) : D → Bool
  | .int i => decide (lo ≤ i) && decide (i ≤ hi)
  | _ => false
theorem okI_int {lo hi i : Int} : okI lo hi (.int i) = (decide (lo ≤ i) && decide (i ≤ hi)) := rfl
/-- known, and no number from lo to hi -/
def BdI (lo hi : Int) (d : D) : Prop := (∃ n, tyD d = some n) ∧ okI lo hi d = false
def wholeD : D → Bool
  | .int _ => true
  | _ => false
/-- where rising numbers from 1 to 60 end -/
def badAt : Option Int → List D → Option Nat
  | _, [] => none
  | p, .int z :: ds => if 1 ≤ z ∧ z ≤ 60 ∧ (∀ y, p = some y → y < z) then (badAt (some z) ds).map (· + 1) else some 0
  | _, _ :: _ => some 0
/-- known, and no steps -/
def BdS (most : Int) (d : D) : Prop := (∃ n, tyD d = some n ∧ n ≠ "list") ∨ ∃ xs, d = .lst xs ∧ (∀ x, x ∈ xs → ∃ n, tyD x = some n) ∧ (¬ (1 ≤ (xs.length : Int) ∧ (xs.length : Int) ≤ most) ∨ ∃ j, badAt none xs = some j)
theorem badAt_ok : ∀ (xs : List D) (p : Option Int) (j : Nat), badAt p xs = some j → j < xs.length ∧ (∀ k, k < j → ∃ z, xs[k]? = some (.int z) ∧ 1 ≤ z ∧ z ≤ 60 ∧ (∀ y, (if k = 0 then p.map D.int else xs[k - 1]?) = some (.int y) → y < z)) ∧
    ∃ d, xs[j]? = some d ∧ (okI 1 60 d = false ∨ ∃ z y, d = .int z ∧ (if j = 0 then p.map D.int else xs[j - 1]?) = some (.int y) ∧ 1 ≤ z ∧ z ≤ 60 ∧ z ≤ y)
  | [], p, j, h => by cases h
  | d :: ds, p, j, h => by
    by_cases hd : ∃ z, d = .int z
    · obtain ⟨z, rfl⟩ := hd
      unfold badAt at h
      by_cases hz : 1 ≤ z ∧ z ≤ 60 ∧ (∀ y, p = some y → y < z)
      · rw [if_pos hz] at h
        cases e : badAt (some z) ds with
        | none => rw [e] at h; cases h
        | some i =>
          rw [e] at h
          have hj : j = i + 1 := (Option.some.inj h).symm
          subst hj
          obtain ⟨a1, a2, d, a3, a4⟩ := badAt_ok ds (some z) i e
          refine ⟨by rw [List.length_cons]; omega, fun k hk => ?_, d, by rw [List.getElem?_cons_succ]; exact a3, ?_⟩
          · cases k with
            | zero =>
              refine ⟨z, rfl, hz.1, hz.2.1, fun y hy => hz.2.2 y ?_⟩
              rw [if_pos rfl] at hy
              cases p with
              | none => cases hy
              | some q => cases hy; rfl
            | succ k =>
              obtain ⟨z', b1, b2, b3, b4⟩ := a2 k (by omega)
              refine ⟨z', by rw [List.getElem?_cons_succ]; exact b1, b2, b3, fun y hy => b4 y ?_⟩
              rw [if_neg (by omega)] at hy
              cases k with
              | zero => exact hy
              | succ k => rw [if_neg (by omega)]; exact hy
          · rcases a4 with a4 | ⟨z', y, b1, b2, b3, b4, b5⟩
            · exact .inl a4
            · refine .inr ⟨z', y, b1, ?_, b3, b4, b5⟩
              rw [if_neg (by omega)]
              cases i with
              | zero => exact b2
              | succ i => rw [if_neg (by omega)] at b2; exact b2
      · rw [if_neg hz] at h
        cases h
        refine ⟨by rw [List.length_cons]; omega, fun k hk => absurd hk (by omega), .int z, rfl, ?_⟩
        by_cases h1 : 1 ≤ z ∧ z ≤ 60
        · right
          by_cases h2 : ∃ y, p = some y ∧ z ≤ y
          · obtain ⟨y, rfl, hy⟩ := h2
            exact ⟨z, y, rfl, rfl, h1.1, h1.2, hy⟩
          · exact absurd ⟨h1.1, h1.2, fun y hy => Int.lt_of_not_ge fun c => h2 ⟨y, hy, c⟩⟩ hz
        · left
          rw [okI_int]
          by_cases h3 : 1 ≤ z
          · rw [decide_eq_true h3, decide_eq_false (fun c => h1 ⟨h3, c⟩)]; rfl
          · rw [decide_eq_false h3]; rfl
    · have e : badAt p (d :: ds) = some 0 := by
        cases d <;> first | rfl | exact absurd ⟨_, rfl⟩ hd
      rw [e] at h
      cases h
      refine ⟨by rw [List.length_cons]; omega, fun k hk => absurd hk (by omega), d, rfl, .inl ?_⟩
      cases d <;> first | rfl | exact absurd ⟨_, rfl⟩ hd
section
variable {P : Program} {w : World} {K : PySem.W.Frag} {mg : Str → Option Value} {base : Heap}
def C_is_wholeG : Ct := fun ds s => ∃ d n, ds = [d] ∧ tyD d = some n ∧ s = .d (.bl (wholeD d))
theorem h_is_wholeG (B : Bi mg) (T : Df K mg "is_whole" s_is_whole ["thing"]) : Has P w K mg base 1 "is_whole" [] C_is_wholeG := by
  refine has_def T sc_is_whole ?_ ?_
  · rintro ds s ⟨d, n, rfl, _⟩; rfl
  rintro ds s ⟨d, n, rfl, ht, rfl⟩ f cdv A outer s0 H E hr
  have no : ∀ {d : D} {n : String}, tyD d = some n → kitB n "int" = some false → HS (cx0 P w K mg base ["thing"] "is_whole" (defScope s_is_whole) f cdv A outer s0 H E) (entry ["thing"] [d]) (defBody s_is_whole) (fun _ => Slot.d (.bl false) = .d .non) (fun s' _ => s' = .d (.bl false)) := fun {d n} ht hk =>
    hs_ret (pp_s (pb_and (k := false) (k' := false) (pb_isi (T := "int") (k := false) B (pb_v 0) B.int (by decide +kernel) ht hk) fun h => by cases h)) rfl
  cases d with
  | non => exact no ht (by cases ht; decide +kernel)
  | bl b => exact hs_ret (pp_s (pb_and (k := true) (k' := false) (pb_isi (T := "int") (k := true) B (pb_v 0) B.int (by decide +kernel) rfl (by decide +kernel)) fun _ => pb_one (pb_not (k := true) (pb_isi (T := "bool") (k := true) B (pb_v 0) B.bool (by decide +kernel) rfl (by decide +kernel))))) rfl
  | int i => exact hs_ret (pp_s (pb_and (pb_isi (T := "int") (k := true) B (pb_v 0) B.int (by decide +kernel) rfl (by decide +kernel)) fun _ => pb_one (pb_not (pb_isi (T := "bool") (k := false) B (pb_v 0) B.bool (by decide +kernel) rfl (by decide +kernel))))) rfl
  | str x => exact no ht (by cases ht; decide +kernel)
  | lst xs => exact no ht (by cases ht; decide +kernel)
  | tup xs => exact no ht (by cases ht; decide +kernel)
  | dct => exact no ht (by cases ht; decide +kernel)
  | scr ns => cases ht
  | val v => cases ht
  | ins C ns ds => cases ht
  | fn L => cases ht
theorem ct_is_wholeG {d : D} {n : String} (h : tyD d = some n) : C_is_wholeG [d] (.d (.bl (wholeD d))) := ⟨_, _, rfl, h, rfl⟩
def C_withinG : Ct := fun ds s => ∃ d lo hi n, ds = [d, .int lo, .int hi] ∧ tyD d = some n ∧ s = .d (.bl (okI lo hi d))
theorem h_withinG (B : Bi mg) (T : Df K mg "within" s_within ["thing", "low", "high"]) (His_wholeG : Has P w K mg base 1 "is_whole" [] C_is_wholeG) : Has P w K mg base 2 "within" [] C_withinG := by
  refine has_def T sc_within ?_ ?_
  · rintro ds s ⟨_, _, _, _, rfl, _⟩; rfl
  rintro ds s ⟨d, lo, hi, n, rfl, ht, rfl⟩ f cdv A outer s0 H E hr
  by_cases hd : ∃ z, d = .int z
  · obtain ⟨z, rfl⟩ := hd
    exact hs_ret (pp_s (pb_and (pb_call His_wholeG hr (ab_cons (pb_v 0) ab_nil) (ct_is_wholeG ht)) fun _ => pb_one (pb_lele (pb_v 1) (pb_v 0) (pb_v 2)))) rfl
  · have e1 : wholeD d = false := by cases d <;> first | rfl | exact absurd ⟨_, rfl⟩ hd
    have e2 : okI lo hi d = false := by cases d <;> first | rfl | exact absurd ⟨_, rfl⟩ hd
    have c := ct_is_wholeG ht
    rw [e1] at c
    rw [e2]
    exact hs_ret (pp_s (pb_and (k := false) (k' := false) (pb_call His_wholeG hr (ab_cons (pb_v 0) ab_nil) c) fun h => by cases h)) rfl
theorem ct_withinG {d : D} {lo hi : Int} (h : ∃ n, tyD d = some n) : C_withinG [d, .int lo, .int hi] (.d (.bl (okI lo hi d))) := by
  obtain ⟨n, h⟩ := h
  exact ⟨_, _, _, _, rfl, h, rfl⟩
def Y_check_ring (cR : Addr) : CtX := fun ds c => ∃ d most, ds = [d, .int most] ∧ BdI 1 most d ∧ c = cR
theorem h_check_ringY {cR : Addr} (B : Bi mg) (T : DfD K mg "check_ring" s_check_ring ["ring", "most"] [.int 60] [.int 60]) (ER : Exn K mg "BadRing" cR) (HwithinG : Has P w K mg base 2 "within" [] C_withinG) : HasY P w K mg base 3 "check_ring" [.int 60] (Y_check_ring cR) ∧ HasY P w K mg base 3 "check_ring" [] (Y_check_ring cR) := by
  refine has_defDY T sc_check_ring ?_ ?_
  · rintro ds c ⟨_, _, rfl, _⟩; rfl
  rintro ds c ⟨d, most, rfl, h, rfl⟩ f cdv A outer s0 H E hr
  exact hy_yes (tq_is (tq_not (tq_v (pb_call HwithinG hr (ab_cons (pb_v 0) (ab_cons pb_n (ab_cons (pb_v 1) ab_nil))) (ct_withinG h.1)))) (by rw [h.2]; rfl)) (hy_raise ER trivial)
def Y_check_place (cP : Addr) : CtX := fun ds c => ∃ ring d, ds = [.int ring, d] ∧ BdI 0 (ring - 1) d ∧ c = cP
theorem h_check_placeY {cP : Addr} (B : Bi mg) (T : Df K mg "check_place" s_check_place ["ring", "place"]) (EP : Exn K mg "BadPlace" cP) (HwithinG : Has P w K mg base 2 "within" [] C_withinG) : HasY P w K mg base 3 "check_place" [] (Y_check_place cP) := by
  refine has_defY T sc_check_place ?_ ?_
  · rintro ds c ⟨_, _, rfl, _⟩; rfl
  rintro ds c ⟨ring, d, rfl, h, rfl⟩ f cdv A outer s0 H E hr
  exact hy_yes (tq_is (tq_not (tq_v (pb_call HwithinG hr (ab_cons (pb_v 1) (ab_cons pb_n (ab_cons (pb_sub (pb_v 0) pb_n) ab_nil))) (ct_withinG h.1)))) (by rw [h.2]; rfl)) (hy_raise EP trivial)
def Y_check_steps (cS : Addr) : CtX := fun ds c => ∃ d most, ds = [d, .int most] ∧ BdS most d ∧ c = cS
theorem ints_from {xs : List D} {k : Nat} {z : Int} (h : xs[k]? = some (.int z)) : atI xs (k : Int) = some (.int z) := atI_nat h
theorem h_check_stepsY {cS : Addr} (B : Bi mg) (T : DfD K mg "check_steps" s_check_steps ["steps", "most"] [.int 6] [.int 6]) (ES : Exn K mg "BadSteps" cS) (MFARTHEST : Gc mg "FARTHEST" 60) (HwithinG : Has P w K mg base 2 "within" [] C_withinG) : HasY P w K mg base 3 "check_steps" [.int 6] (Y_check_steps cS) ∧ HasY P w K mg base 3 "check_steps" [] (Y_check_steps cS) := by
  refine has_defDY T sc_check_steps ?_ ?_
  · rintro ds c ⟨_, _, rfl, _⟩; rfl
  rintro ds c ⟨d, most, rfl, h, rfl⟩ f cdv A outer s0 H E hr
  have nd := sc_check_steps.nd
  rcases h with ⟨n, hn, hne⟩ | ⟨xs, rfl, kn, hl⟩
  · have hk : kitB n "list" = some false := by
      cases d <;> cases hn <;> first | (exact absurd rfl hne) | decide +kernel
    exact hy_yes (tq_is (k := true) (tq_w (wq_or (k := true) (k' := true) (tq_not (k := false) (tq_v (pb_isi (T := "list") (k := false) B (pb_v 0) B.list (by decide +kernel) hn hk))) fun h => by cases h)) rfl) (hy_raise ES trivial)
  · by_cases hlen : 1 ≤ (xs.length : Int) ∧ (xs.length : Int) ≤ most
    · rcases hl with hl | ⟨j, hj⟩
      · exact absurd hlen hl
      · obtain ⟨jl, before, d, hd, bad⟩ := badAt_ok xs none j hj
        refine hy_no (tq_is (tq_w (wq_or (tq_not (tq_v (pb_isi (T := "list") (k := true) B (pb_v 0) B.list (by decide +kernel) rfl (by decide +kernel)))) fun _ => (wq_or1 (tq_not (tq_lele pb_n (pb_len B (pb_v 0)) (pb_v 1)))))) (not_yes (in_yes hlen.1 hlen.2))) ?_
        refine hy_forE B j (fun _ => [.d (.lst xs), .i most, .un, .un]) (fun k => [.d (.lst xs), .i most, .i k, .d (xs.getD k .non)]) (pp_v 0) jl Le.refl (fun k d _ hk => ?_) (fun k d hk hkd => ?_) (fun d' hd' => ?_) (passes_of rfl)
        · rw [getD_of hk]
          exact gq_t (gqs_cons (gq_n 2 nd) (gqs_cons (gq_n 3 nd) gqs_nil))
        · obtain ⟨z, b1, b2, b3, b4⟩ := before k hk
          rw [b1] at hkd
          cases hkd
          rw [getD_of b1]
          refine hs_cons (M := fun r => r = [.d (.lst xs), .i most, .i k, .i z]) ?_ ?_
          · by_cases k0 : 0 < k
            · obtain ⟨y, hy, _⟩ := before (k - 1) (by omega)
              have hyz := b4 y (by rw [if_neg (by omega)]; exact hy)
              refine s1_if (k := false) (tq_is (tq_w (wq_or (tq_not (tq_v (pb_call HwithinG hr (ab_cons (pb_v 3) (ab_cons pb_n (ab_cons (pb_gc MFARTHEST) ab_nil))) (ct_withinG ⟨_, rfl⟩)))) fun _ => (wq_or1 (tq_w (wq_and (tq_cmp cr_gt (pb_v 2) pb_n) fun _ => (wq_and1 (tq_cmp cr_ge (pb_ix (d := .int y) (pb_v 0) (pb_sub (pb_v 2) pb_n) ?_) (pb_v 3)))))))) ?_) (fun h => by cases h) fun _ => hs_nil rfl
              · have e : ((k : Int) - 1) = ((k - 1 : Nat) : Int) := by omega
                rw [e]; exact ints_from hy
              · rw [okI_int]
                rw [not_yes (in_yes b2 b3), decide_eq_false (by omega : ¬ z ≤ y)]; simp
            · refine s1_if (k := false) (tq_is (tq_w (wq_or (tq_not (tq_v (pb_call HwithinG hr (ab_cons (pb_v 3) (ab_cons pb_n (ab_cons (pb_gc MFARTHEST) ab_nil))) (ct_withinG ⟨_, rfl⟩)))) fun _ => (wq_or1 (tq_w (wq_and (k' := false) (tq_cmp cr_gt (pb_v 2) pb_n) fun h => absurd (of_decide_eq_true h) (by omega)))))) ?_) (fun h => by cases h) fun _ => hs_nil rfl
              rw [okI_int]
              rw [not_yes (in_yes b2 b3)]; simp
          · rintro _ rfl
            exact hs_nil (.same (.same (.drop (.drop .nil))))
        · rw [hd] at hd'
          cases hd'
          rw [getD_of hd]
          have kd := kn d (List.mem_of_getElem? hd)
          rcases bad with bad | ⟨z, y, rfl, hy, z1, z2, zy⟩
          · exact hy_yes (tq_is (k := true) (tq_w (wq_or (k := true) (k' := true) (tq_is (tq_not (tq_v (pb_call HwithinG hr (ab_cons (pb_v 3) (ab_cons pb_n (ab_cons (pb_gc MFARTHEST) ab_nil))) (ct_withinG kd)))) (by rw [bad]; rfl)) fun h => by cases h)) rfl) (hy_raise ES trivial)
          · have j0 : 0 < j := by
              by_cases c : j = 0
              · rw [if_pos c] at hy; cases hy
              · omega
            rw [if_neg (by omega)] at hy
            refine hy_yes (tq_is (tq_w (wq_or (tq_not (tq_v (pb_call HwithinG hr (ab_cons (pb_v 3) (ab_cons pb_n (ab_cons (pb_gc MFARTHEST) ab_nil))) (ct_withinG ⟨_, rfl⟩)))) fun _ => (wq_or1 (tq_w (wq_and (tq_cmp cr_gt (pb_v 2) pb_n) fun _ => (wq_and1 (tq_cmp cr_ge (pb_ix (d := .int y) (pb_v 0) (pb_sub (pb_v 2) pb_n) ?_) (pb_v 3)))))))) ?_) (hy_raise ES trivial)
            · have e : ((j : Int) - 1) = ((j - 1 : Nat) : Int) := by omega
              rw [e]; exact ints_from hy
            · rw [okI_int]
              rw [not_yes (in_yes z1 z2), decide_eq_true zy, decide_eq_true (by omega : (0 : Int) < j)]; rfl
    · refine hy_yes (tq_is (tq_w (wq_or (tq_not (tq_v (pb_isi (T := "list") (k := true) B (pb_v 0) B.list (by decide +kernel) rfl (by decide +kernel)))) fun _ => (wq_or1 (tq_not (tq_lele pb_n (pb_len B (pb_v 0)) (pb_v 1)))))) ?_) (hy_raise ES trivial)
      have : (decide (1 ≤ (xs.length : Int)) && decide ((xs.length : Int) ≤ most)) = false := by
        by_cases c : 1 ≤ (xs.length : Int)
        · rw [decide_eq_false (fun z => hlen ⟨c, z⟩)]; simp
        · rw [decide_eq_false c]; rfl
      rw [this]; rfl
end

/-! ### what is refused: the doors -/
section
variable (cR cS cP : Addr)
def YR (m : Int) (d0 : D) (c : Addr) : Prop := BdI 1 m d0 ∧ c = cR
def YS (m sm : Int) (d0 d1 : D) (c : Addr) : Prop := (∃ ring, d0 = .int ring ∧ 1 ≤ ring ∧ ring ≤ m ∧ BdS sm d1) ∧ c = cS
def YP (d0 d1 d2 : D) (c : Addr) : Prop := (∃ ring steps, d0 = .int ring ∧ d1 = .ints steps ∧ RS ring steps ∧ BdI 0 (ring - 1) d2) ∧ c = cP
def YP2 (d0 d1 d2 d3 : D) (c : Addr) : Prop := (∃ ring steps place, d0 = .int ring ∧ d1 = .ints steps ∧ RS ring steps ∧ d2 = .int place ∧ 0 ≤ place ∧ place < ring ∧ BdI 0 (ring - 1) d3) ∧ c = cP
def YQ2 (d0 d1 : D) (c : Addr) : Prop := YR cR 60 d0 c ∨ YS cS 60 6 d0 d1 c
def YQ3 (d0 d1 d2 : D) (c : Addr) : Prop := YR cR 60 d0 c ∨ YS cS 60 6 d0 d1 c ∨ YP cP d0 d1 d2 c
def YQ4 (d0 d1 d2 d3 : D) (c : Addr) : Prop := YR cR 60 d0 c ∨ YS cS 60 6 d0 d1 c ∨ YP cP d0 d1 d2 c ∨ YP2 cP d0 d1 d2 d3 c
end
section
variable {P : Program} {w : World} {K : PySem.W.Frag} {mg : Str → Option Value} {base : Heap} {cR cS cP : Addr}
def Y_told (cR cS cP : Addr) : CtX := fun ds c => ∃ d0 d1 d2 d3, ds = [d0, d1, d2, d3] ∧ YQ4 cR cS cP d0 d1 d2 d3 c
theorem h_toldY (B : Bi mg) (T : Df K mg "told" s_told ["ring", "steps", "one", "other"]) (Hcheck_ring : Has P w K mg base 3 "check_ring" [.int 60] C_check_ring) (Hcheck_steps : Has P w K mg base 3 "check_steps" [.int 6] C_check_steps) (Hcheck_place : Has P w K mg base 3 "check_place" [] C_check_place) (Hcheck_ringY : HasY P w K mg base 3 "check_ring" [.int 60] (Y_check_ring cR)) (Hcheck_stepsY : HasY P w K mg base 3 "check_steps" [.int 6] (Y_check_steps cS)) (Hcheck_placeY : HasY P w K mg base 3 "check_place" [] (Y_check_place cP)) : HasY P w K mg base 4 "told" [] (Y_told cR cS cP) := by
  refine has_defY T sc_told ?_ ?_
  · rintro ds c ⟨_, _, _, _, rfl, _⟩; rfl
  rintro ds c ⟨d0, d1, d2, d3, rfl, h⟩ f cdv A outer s0 H E hr
  rcases h with ⟨h, rfl⟩ | ⟨⟨ring, rfl, r1, r2, h⟩, rfl⟩ | ⟨⟨ring, steps, rfl, rfl, rs, h⟩, rfl⟩ | ⟨⟨ring, steps, place, rfl, rfl, rs, rfl, p0, p1, h⟩, rfl⟩
  · exact hy_expr (py_call Hcheck_ringY hr (ab_cons (pb_v 0) ab_nil) ⟨_, _, rfl, h, rfl⟩) trivial
  · exact hy_exp (pp_s (pb_call Hcheck_ring hr (ab_cons (pb_v 0) ab_nil) (ct_check_ring r1 r2))) (hy_expr (py_call Hcheck_stepsY hr (ab_cons (pb_v 1) ab_nil) ⟨_, _, rfl, h, rfl⟩) trivial)
  · exact hy_exp (pp_s (pb_call Hcheck_ring hr (ab_cons (pb_v 0) ab_nil) (ct_check_ring rs.lo rs.hi))) (hy_exp (pp_s (pb_call Hcheck_steps hr (ab_cons (pb_v 1) ab_nil) (ct_check_steps6 rs))) (hy_expr (py_call Hcheck_placeY hr (ab_cons (pb_v 0) (ab_cons (pb_v 2) ab_nil)) ⟨_, _, rfl, h, rfl⟩) trivial))
  · exact hy_exp (pp_s (pb_call Hcheck_ring hr (ab_cons (pb_v 0) ab_nil) (ct_check_ring rs.lo rs.hi))) (hy_exp (pp_s (pb_call Hcheck_steps hr (ab_cons (pb_v 1) ab_nil) (ct_check_steps6 rs))) (hy_exp (pp_s (pb_call Hcheck_place hr (ab_cons (pb_v 0) (ab_cons (pb_v 2) ab_nil)) (ct_check_place p0 p1))) (hy_expr (py_call Hcheck_placeY hr (ab_cons (pb_v 0) (ab_cons (pb_v 3) ab_nil)) ⟨_, _, rfl, h, rfl⟩) trivial)))
def Y_nearest (cR cS cP : Addr) : CtX := fun ds c => ∃ d0 d1 d2, ds = [d0, d1, d2] ∧ YQ3 cR cS cP d0 d1 d2 c
theorem h_nearestY (B : Bi mg) (T : Df K mg "nearest" s_nearest ["ring", "steps", "place"]) (Hcheck_ring : Has P w K mg base 3 "check_ring" [.int 60] C_check_ring) (Hcheck_steps : Has P w K mg base 3 "check_steps" [.int 6] C_check_steps) (Hcheck_place : Has P w K mg base 3 "check_place" [] C_check_place) (Hcheck_ringY : HasY P w K mg base 3 "check_ring" [.int 60] (Y_check_ring cR)) (Hcheck_stepsY : HasY P w K mg base 3 "check_steps" [.int 6] (Y_check_steps cS)) (Hcheck_placeY : HasY P w K mg base 3 "check_place" [] (Y_check_place cP)) : HasY P w K mg base 4 "nearest" [] (Y_nearest cR cS cP) := by
  refine has_defY T sc_nearest ?_ ?_
  · rintro ds c ⟨_, _, _, rfl, _⟩; rfl
  rintro ds c ⟨d0, d1, d2, rfl, h⟩ f cdv A outer s0 H E hr
  rcases h with ⟨h, rfl⟩ | ⟨⟨ring, rfl, r1, r2, h⟩, rfl⟩ | ⟨⟨ring, steps, rfl, rfl, rs, h⟩, rfl⟩
  · exact hy_expr (py_call Hcheck_ringY hr (ab_cons (pb_v 0) ab_nil) ⟨_, _, rfl, h, rfl⟩) trivial
  · exact hy_exp (pp_s (pb_call Hcheck_ring hr (ab_cons (pb_v 0) ab_nil) (ct_check_ring r1 r2))) (hy_expr (py_call Hcheck_stepsY hr (ab_cons (pb_v 1) ab_nil) ⟨_, _, rfl, h, rfl⟩) trivial)
  · exact hy_exp (pp_s (pb_call Hcheck_ring hr (ab_cons (pb_v 0) ab_nil) (ct_check_ring rs.lo rs.hi))) (hy_exp (pp_s (pb_call Hcheck_steps hr (ab_cons (pb_v 1) ab_nil) (ct_check_steps6 rs))) (hy_expr (py_call Hcheck_placeY hr (ab_cons (pb_v 0) (ab_cons (pb_v 2) ab_nil)) ⟨_, _, rfl, h, rfl⟩) trivial))
def Y_far (cR cS : Addr) : CtX := fun ds c => ∃ d0 d1, ds = [d0, d1] ∧ YQ2 cR cS d0 d1 c
theorem h_farY (B : Bi mg) (T : Df K mg "far" s_far ["ring", "steps"]) (Hcheck_ring : Has P w K mg base 3 "check_ring" [.int 60] C_check_ring) (Hcheck_ringY : HasY P w K mg base 3 "check_ring" [.int 60] (Y_check_ring cR)) (Hcheck_stepsY : HasY P w K mg base 3 "check_steps" [.int 6] (Y_check_steps cS)) : HasY P w K mg base 4 "far" [] (Y_far cR cS) := by
  refine has_defY T sc_far ?_ ?_
  · rintro ds c ⟨_, _, rfl, _⟩; rfl
  rintro ds c ⟨d0, d1, rfl, h⟩ f cdv A outer s0 H E hr
  rcases h with ⟨h, rfl⟩ | ⟨⟨ring, rfl, r1, r2, h⟩, rfl⟩
  · exact hy_expr (py_call Hcheck_ringY hr (ab_cons (pb_v 0) ab_nil) ⟨_, _, rfl, h, rfl⟩) trivial
  · exact hy_exp (pp_s (pb_call Hcheck_ring hr (ab_cons (pb_v 0) ab_nil) (ct_check_ring r1 r2))) (hy_expr (py_call Hcheck_stepsY hr (ab_cons (pb_v 1) ab_nil) ⟨_, _, rfl, h, rfl⟩) trivial)
def Y_check_all (cR cS cP : Addr) : CtX := fun ds c => ∃ d0 d1 d2 d3 d4, ds = [d0, d1, d2, d3, d4] ∧ YQ4 cR cS cP d0 d1 d2 d3 c
theorem h_check_allY (B : Bi mg) (T : Df K mg "check_all" s_check_all ["ring", "steps", "one", "other", "many"]) (Hcheck_ring : Has P w K mg base 3 "check_ring" [.int 60] C_check_ring) (Hcheck_steps : Has P w K mg base 3 "check_steps" [.int 6] C_check_steps) (Hcheck_place : Has P w K mg base 3 "check_place" [] C_check_place) (Hcheck_ringY : HasY P w K mg base 3 "check_ring" [.int 60] (Y_check_ring cR)) (Hcheck_stepsY : HasY P w K mg base 3 "check_steps" [.int 6] (Y_check_steps cS)) (Hcheck_placeY : HasY P w K mg base 3 "check_place" [] (Y_check_place cP)) : HasY P w K mg base 4 "check_all" [] (Y_check_all cR cS cP) := by
  refine has_defY T sc_check_all ?_ ?_
  · rintro ds c ⟨_, _, _, _, _, rfl, _⟩; rfl
  rintro ds c ⟨d0, d1, d2, d3, d4, rfl, h⟩ f cdv A outer s0 H E hr
  rcases h with ⟨h, rfl⟩ | ⟨⟨ring, rfl, r1, r2, h⟩, rfl⟩ | ⟨⟨ring, steps, rfl, rfl, rs, h⟩, rfl⟩ | ⟨⟨ring, steps, place, rfl, rfl, rs, rfl, p0, p1, h⟩, rfl⟩
  · exact hy_expr (py_call Hcheck_ringY hr (ab_cons (pb_v 0) ab_nil) ⟨_, _, rfl, h, rfl⟩) trivial
  · exact hy_exp (pp_s (pb_call Hcheck_ring hr (ab_cons (pb_v 0) ab_nil) (ct_check_ring r1 r2))) (hy_expr (py_call Hcheck_stepsY hr (ab_cons (pb_v 1) ab_nil) ⟨_, _, rfl, h, rfl⟩) trivial)
  · exact hy_exp (pp_s (pb_call Hcheck_ring hr (ab_cons (pb_v 0) ab_nil) (ct_check_ring rs.lo rs.hi))) (hy_exp (pp_s (pb_call Hcheck_steps hr (ab_cons (pb_v 1) ab_nil) (ct_check_steps6 rs))) (hy_expr (py_call Hcheck_placeY hr (ab_cons (pb_v 0) (ab_cons (pb_v 2) ab_nil)) ⟨_, _, rfl, h, rfl⟩) trivial))
  · exact hy_exp (pp_s (pb_call Hcheck_ring hr (ab_cons (pb_v 0) ab_nil) (ct_check_ring rs.lo rs.hi))) (hy_exp (pp_s (pb_call Hcheck_steps hr (ab_cons (pb_v 1) ab_nil) (ct_check_steps6 rs))) (hy_exp (pp_s (pb_call Hcheck_place hr (ab_cons (pb_v 0) (ab_cons (pb_v 2) ab_nil)) (ct_check_place p0 p1))) (hy_expr (py_call Hcheck_placeY hr (ab_cons (pb_v 0) (ab_cons (pb_v 3) ab_nil)) ⟨_, _, rfl, h, rfl⟩) trivial)))
def Y_number_of (cR cS : Addr) : CtX := fun ds c => ∃ d0 d1 d2, ds = [d0, d1, d2] ∧ YQ2 cR cS d0 d1 c
theorem h_number_ofY (B : Bi mg) (T : Df K mg "number_of" s_number_of ["ring", "steps", "way"]) (Hcheck_ring : Has P w K mg base 3 "check_ring" [.int 60] C_check_ring) (Hcheck_ringY : HasY P w K mg base 3 "check_ring" [.int 60] (Y_check_ring cR)) (Hcheck_stepsY : HasY P w K mg base 3 "check_steps" [.int 6] (Y_check_steps cS)) : HasY P w K mg base 4 "number_of" [] (Y_number_of cR cS) := by
  refine has_defY T sc_number_of ?_ ?_
  · rintro ds c ⟨_, _, _, rfl, _⟩; rfl
  rintro ds c ⟨d0, d1, d2, rfl, h⟩ f cdv A outer s0 H E hr
  rcases h with ⟨h, rfl⟩ | ⟨⟨ring, rfl, r1, r2, h⟩, rfl⟩
  · exact hy_expr (py_call Hcheck_ringY hr (ab_cons (pb_v 0) ab_nil) ⟨_, _, rfl, h, rfl⟩) trivial
  · exact hy_exp (pp_s (pb_call Hcheck_ring hr (ab_cons (pb_v 0) ab_nil) (ct_check_ring r1 r2))) (hy_expr (py_call Hcheck_stepsY hr (ab_cons (pb_v 1) ab_nil) ⟨_, _, rfl, h, rfl⟩) trivial)
def Y_after (cR cS cP : Addr) : CtX := fun ds c => ∃ d0 d1 d2 d3, ds = [d0, d1, d2, d3] ∧ YQ3 cR cS cP d0 d1 d2 c
theorem h_afterY (B : Bi mg) (T : Df K mg "after" s_after ["ring", "steps", "place", "many"]) (Hcheck_ring : Has P w K mg base 3 "check_ring" [.int 60] C_check_ring) (Hcheck_steps : Has P w K mg base 3 "check_steps" [.int 6] C_check_steps) (Hcheck_place : Has P w K mg base 3 "check_place" [] C_check_place) (Hcheck_ringY : HasY P w K mg base 3 "check_ring" [.int 60] (Y_check_ring cR)) (Hcheck_stepsY : HasY P w K mg base 3 "check_steps" [.int 6] (Y_check_steps cS)) (Hcheck_placeY : HasY P w K mg base 3 "check_place" [] (Y_check_place cP)) : HasY P w K mg base 4 "after" [] (Y_after cR cS cP) := by
  refine has_defY T sc_after ?_ ?_
  · rintro ds c ⟨_, _, _, _, rfl, _⟩; rfl
  rintro ds c ⟨d0, d1, d2, d3, rfl, h⟩ f cdv A outer s0 H E hr
  rcases h with ⟨h, rfl⟩ | ⟨⟨ring, rfl, r1, r2, h⟩, rfl⟩ | ⟨⟨ring, steps, rfl, rfl, rs, h⟩, rfl⟩
  · exact hy_expr (py_call Hcheck_ringY hr (ab_cons (pb_v 0) ab_nil) ⟨_, _, rfl, h, rfl⟩) trivial
  · exact hy_exp (pp_s (pb_call Hcheck_ring hr (ab_cons (pb_v 0) ab_nil) (ct_check_ring r1 r2))) (hy_expr (py_call Hcheck_stepsY hr (ab_cons (pb_v 1) ab_nil) ⟨_, _, rfl, h, rfl⟩) trivial)
  · exact hy_exp (pp_s (pb_call Hcheck_ring hr (ab_cons (pb_v 0) ab_nil) (ct_check_ring rs.lo rs.hi))) (hy_exp (pp_s (pb_call Hcheck_steps hr (ab_cons (pb_v 1) ab_nil) (ct_check_steps6 rs))) (hy_expr (py_call Hcheck_placeY hr (ab_cons (pb_v 0) (ab_cons (pb_v 2) ab_nil)) ⟨_, _, rfl, h, rfl⟩) trivial))
def Y_every (cR cS : Addr) : CtX := fun ds c => ∃ d0 d1, ds = [d0, d1] ∧ YQ2 cR cS d0 d1 c
theorem h_everyY (B : Bi mg) (T : Df K mg "every" s_every ["ring", "steps"]) (Hcheck_ring : Has P w K mg base 3 "check_ring" [.int 60] C_check_ring) (Hcheck_ringY : HasY P w K mg base 3 "check_ring" [.int 60] (Y_check_ring cR)) (Hcheck_stepsY : HasY P w K mg base 3 "check_steps" [.int 6] (Y_check_steps cS)) : HasY P w K mg base 4 "every" [] (Y_every cR cS) := by
  refine has_defY T sc_every ?_ ?_
  · rintro ds c ⟨_, _, rfl, _⟩; rfl
  rintro ds c ⟨d0, d1, rfl, h⟩ f cdv A outer s0 H E hr
  rcases h with ⟨h, rfl⟩ | ⟨⟨ring, rfl, r1, r2, h⟩, rfl⟩
  · exact hy_expr (py_call Hcheck_ringY hr (ab_cons (pb_v 0) ab_nil) ⟨_, _, rfl, h, rfl⟩) trivial
  · exact hy_exp (pp_s (pb_call Hcheck_ring hr (ab_cons (pb_v 0) ab_nil) (ct_check_ring r1 r2))) (hy_expr (py_call Hcheck_stepsY hr (ab_cons (pb_v 1) ab_nil) ⟨_, _, rfl, h, rfl⟩) trivial)
def Y_twos (cR cS : Addr) : CtX := fun ds c => ∃ d0 d1, ds = [d0, d1] ∧ YQ2 cR cS d0 d1 c
theorem h_twosY (B : Bi mg) (T : Df K mg "twos" s_twos ["ring", "steps"]) (Hcheck_ring : Has P w K mg base 3 "check_ring" [.int 60] C_check_ring) (Hcheck_ringY : HasY P w K mg base 3 "check_ring" [.int 60] (Y_check_ring cR)) (Hcheck_stepsY : HasY P w K mg base 3 "check_steps" [.int 6] (Y_check_steps cS)) : HasY P w K mg base 4 "twos" [] (Y_twos cR cS) := by
  refine has_defY T sc_twos ?_ ?_
  · rintro ds c ⟨_, _, rfl, _⟩; rfl
  rintro ds c ⟨d0, d1, rfl, h⟩ f cdv A outer s0 H E hr
  rcases h with ⟨h, rfl⟩ | ⟨⟨ring, rfl, r1, r2, h⟩, rfl⟩
  · exact hy_expr (py_call Hcheck_ringY hr (ab_cons (pb_v 0) ab_nil) ⟨_, _, rfl, h, rfl⟩) trivial
  · exact hy_exp (pp_s (pb_call Hcheck_ring hr (ab_cons (pb_v 0) ab_nil) (ct_check_ring r1 r2))) (hy_expr (py_call Hcheck_stepsY hr (ab_cons (pb_v 1) ab_nil) ⟨_, _, rfl, h, rfl⟩) trivial)
def Y_judged (cR cS cP : Addr) : CtX := fun ds c => ∃ d0 d1 d2 d3, ds = [d0, d1, d2, d3] ∧ YQ3 cR cS cP d0 d1 d2 c
theorem h_judgedY (B : Bi mg) (T : Df K mg "judged" s_judged ["ring", "steps", "place", "tale"]) (Hcheck_ring : Has P w K mg base 3 "check_ring" [.int 60] C_check_ring) (Hcheck_steps : Has P w K mg base 3 "check_steps" [.int 6] C_check_steps) (Hcheck_place : Has P w K mg base 3 "check_place" [] C_check_place) (Hcheck_ringY : HasY P w K mg base 3 "check_ring" [.int 60] (Y_check_ring cR)) (Hcheck_stepsY : HasY P w K mg base 3 "check_steps" [.int 6] (Y_check_steps cS)) (Hcheck_placeY : HasY P w K mg base 3 "check_place" [] (Y_check_place cP)) : HasY P w K mg base 4 "judged" [] (Y_judged cR cS cP) := by
  refine has_defY T sc_judged ?_ ?_
  · rintro ds c ⟨_, _, _, _, rfl, _⟩; rfl
  rintro ds c ⟨d0, d1, d2, d3, rfl, h⟩ f cdv A outer s0 H E hr
  rcases h with ⟨h, rfl⟩ | ⟨⟨ring, rfl, r1, r2, h⟩, rfl⟩ | ⟨⟨ring, steps, rfl, rfl, rs, h⟩, rfl⟩
  · exact hy_expr (py_call Hcheck_ringY hr (ab_cons (pb_v 0) ab_nil) ⟨_, _, rfl, h, rfl⟩) trivial
  · exact hy_exp (pp_s (pb_call Hcheck_ring hr (ab_cons (pb_v 0) ab_nil) (ct_check_ring r1 r2))) (hy_expr (py_call Hcheck_stepsY hr (ab_cons (pb_v 1) ab_nil) ⟨_, _, rfl, h, rfl⟩) trivial)
  · exact hy_exp (pp_s (pb_call Hcheck_ring hr (ab_cons (pb_v 0) ab_nil) (ct_check_ring rs.lo rs.hi))) (hy_exp (pp_s (pb_call Hcheck_steps hr (ab_cons (pb_v 1) ab_nil) (ct_check_steps6 rs))) (hy_expr (py_call Hcheck_placeY hr (ab_cons (pb_v 0) (ab_cons (pb_v 2) ab_nil)) ⟨_, _, rfl, h, rfl⟩) trivial))
def Y_Walker (cR cS cP : Addr) : CtX := fun ds c => ∃ v d0 d1 d2, ds = [.val v, d0, d1, d2] ∧ YQ3 cR cS cP d0 d1 d2 c
theorem h_WalkerY {CW : Addr} (B : Bi mg) (DWalker : Di K mg "Walker" "Walker.__init__" CW s_Walker___init__ ["self", "ring", "steps", "place"] ["ring", "steps", "line", "ways", "counts", "lines"]) (Hcheck_ring : Has P w K mg base 3 "check_ring" [.int 60] C_check_ring) (Hcheck_steps : Has P w K mg base 3 "check_steps" [.int 6] C_check_steps) (Hcheck_place : Has P w K mg base 3 "check_place" [] C_check_place) (Hcheck_ringY : HasY P w K mg base 3 "check_ring" [.int 60] (Y_check_ring cR)) (Hcheck_stepsY : HasY P w K mg base 3 "check_steps" [.int 6] (Y_check_steps cS)) (Hcheck_placeY : HasY P w K mg base 3 "check_place" [] (Y_check_place cP)) : HasNY P w K mg base 4 "Walker" CW (Y_Walker cR cS cP) := by
  refine has_initY DWalker sc_Walker___init__ ?_ ?_
  · rintro ds c ⟨_, _, _, _, rfl, _⟩; rfl
  rintro ds c ⟨v, d0, d1, d2, rfl, h⟩ f cdv A outer s0 H E hr
  rcases h with ⟨h, rfl⟩ | ⟨⟨ring, rfl, r1, r2, h⟩, rfl⟩ | ⟨⟨ring, steps, rfl, rfl, rs, h⟩, rfl⟩
  · exact hy_expr (py_call Hcheck_ringY hr (ab_cons (pb_v 1) ab_nil) ⟨_, _, rfl, h, rfl⟩) trivial
  · exact hy_exp (pp_s (pb_call Hcheck_ring hr (ab_cons (pb_v 1) ab_nil) (ct_check_ring r1 r2))) (hy_expr (py_call Hcheck_stepsY hr (ab_cons (pb_v 2) ab_nil) ⟨_, _, rfl, h, rfl⟩) trivial)
  · exact hy_exp (pp_s (pb_call Hcheck_ring hr (ab_cons (pb_v 1) ab_nil) (ct_check_ring rs.lo rs.hi))) (hy_exp (pp_s (pb_call Hcheck_steps hr (ab_cons (pb_v 2) ab_nil) (ct_check_steps6 rs))) (hy_expr (py_call Hcheck_placeY hr (ab_cons (pb_v 1) (ab_cons (pb_v 3) ab_nil)) ⟨_, _, rfl, h, rfl⟩) trivial))
def Y_how_many (cR cS cP : Addr) : CtX := fun ds c => ∃ d0 d1 d2 d3 d4, ds = [d0, d1, d2, d3, d4] ∧ YQ4 cR cS cP d0 d1 d2 d3 c
theorem h_how_manyY (B : Bi mg) (T : Df K mg "how_many" s_how_many ["ring", "steps", "one", "other", "many"]) (Hcheck_allY : HasY P w K mg base 4 "check_all" [] (Y_check_all cR cS cP)) : HasY P w K mg base 5 "how_many" [] (Y_how_many cR cS cP) := by
  refine has_defY T sc_how_many ?_ ?_
  · rintro ds c ⟨_, _, _, _, _, rfl, _⟩; rfl
  rintro ds c ⟨d0, d1, d2, d3, d4, rfl, h⟩ f cdv A outer s0 H E hr
  exact hy_expr (py_call Hcheck_allY hr (ab_cons (pb_v 0) (ab_cons (pb_v 1) (ab_cons (pb_v 2) (ab_cons (pb_v 3) (ab_cons (pb_v 4) ab_nil))))) ⟨_, _, _, _, _, rfl, h⟩) trivial
def Y_way_by (cR cS cP : Addr) : CtX := fun ds c => ∃ d0 d1 d2 d3 d4 d5, ds = [d0, d1, d2, d3, d4, d5] ∧ YQ4 cR cS cP d0 d1 d2 d3 c
theorem h_way_byY (B : Bi mg) (T : Df K mg "way_by" s_way_by ["ring", "steps", "one", "other", "many", "number"]) (Hcheck_allY : HasY P w K mg base 4 "check_all" [] (Y_check_all cR cS cP)) : HasY P w K mg base 5 "way_by" [] (Y_way_by cR cS cP) := by
  refine has_defY T sc_way_by ?_ ?_
  · rintro ds c ⟨_, _, _, _, _, _, rfl, _⟩; rfl
  rintro ds c ⟨d0, d1, d2, d3, d4, d5, rfl, h⟩ f cdv A outer s0 H E hr
  exact hy_expr (py_call Hcheck_allY hr (ab_cons (pb_v 0) (ab_cons (pb_v 1) (ab_cons (pb_v 2) (ab_cons (pb_v 3) (ab_cons (pb_v 4) ab_nil))))) ⟨_, _, _, _, _, rfl, h⟩) trivial
def Y_added (cR cS : Addr) : CtX := fun ds c => ∃ d0 d1, ds = [d0, d1] ∧ (YR cR 60 d0 c ∨ YS cS 60 (6 - 1) d0 d1 c)
theorem h_addedY (B : Bi mg) (T : Df K mg "added" s_added ["ring", "steps"]) (MMOST_STEPS : Gc mg "MOST_STEPS" 6) (Hcheck_ring : Has P w K mg base 3 "check_ring" [.int 60] C_check_ring) (Hcheck_ringY : HasY P w K mg base 3 "check_ring" [.int 60] (Y_check_ring cR)) (Hcheck_stepsY2 : HasY P w K mg base 3 "check_steps" [] (Y_check_steps cS)) : HasY P w K mg base 4 "added" [] (Y_added cR cS) := by
  refine has_defY T sc_added ?_ ?_
  · rintro ds c ⟨_, _, rfl, _⟩; rfl
  rintro ds c ⟨d0, d1, rfl, h⟩ f cdv A outer s0 H E hr
  rcases h with ⟨h, rfl⟩ | ⟨⟨ring, rfl, r1, r2, h⟩, rfl⟩
  · exact hy_expr (py_call Hcheck_ringY hr (ab_cons (pb_v 0) ab_nil) ⟨_, _, rfl, h, rfl⟩) trivial
  · exact hy_exp (pp_s (pb_call Hcheck_ring hr (ab_cons (pb_v 0) ab_nil) (ct_check_ring r1 r2))) (hy_expr (py_call Hcheck_stepsY2 hr (ab_cons (pb_v 1) (ab_cons (pb_sub (pb_gc MMOST_STEPS) pb_n) ab_nil)) ⟨_, _, rfl, h, rfl⟩) trivial)
def Y_told_back (cR : Addr) : CtX := fun ds c => ∃ d0 d1, ds = [d0, d1] ∧ YR cR 8 d0 c
theorem h_told_backY (B : Bi mg) (T : Df K mg "told_back" s_told_back ["ring", "places"]) (MFEW : Gc mg "FEW" 8) (Hcheck_ringY2 : HasY P w K mg base 3 "check_ring" [] (Y_check_ring cR)) : HasY P w K mg base 4 "told_back" [] (Y_told_back cR) := by
  refine has_defY T sc_told_back ?_ ?_
  · rintro ds c ⟨_, _, rfl, _⟩; rfl
  rintro ds c ⟨d0, d1, rfl, h, rfl⟩ f cdv A outer s0 H E hr
  exact hy_expr (py_call Hcheck_ringY2 hr (ab_cons (pb_v 0) (ab_cons (pb_gc MFEW) ab_nil)) ⟨_, _, rfl, h, rfl⟩) trivial
end

/-! ### _law_kinds, _law_refused, _law_all -/
def kindsB (i : Int) : List Bool := (List.range 10).map (fun j : Nat => decide ((j : Int) = i)) ++ [true]
/-- which class has which place -/
def wh (cR cS cP : Addr) (c : Addr) (i : Int) : Prop := (c = cR ∧ i = 0) ∨ (c = cS ∧ i = 1) ∨ (c = cP ∧ i = 2)
section
variable {P : Program} {w : World} {K : PySem.W.Frag} {mg : Str → Option Value} {base : Heap} {cR cS cP cC cN cY cL cT cA cO : Addr}
def C__law_kinds (cR cS cP : Addr) : Addr → Slot → Prop := fun c s => ∃ i, wh cR cS cP c i ∧ s = .o ((kindsB i).map .bl)
theorem h__law_kinds (B : Bi mg) (T : Df K mg "_law_kinds" s__law_kinds ["_law_error"]) (G0 : Mg mg "BadRing" cR) (G1 : Mg mg "BadSteps" cS) (G2 : Mg mg "BadPlace" cP) (G3 : Mg mg "BadCount" cC) (G4 : Mg mg "BadNumber" cN) (G5 : Mg mg "BadWay" cY) (G6 : Mg mg "BadPlaces" cL) (G7 : Mg mg "BadStep" cT) (G8 : Mg mg "BadTale" cA) (G9 : Mg mg "Nothing" cO) (VE : Nn mg "ValueError") (X0 : ExcC K cR) (K0_0 : Ko K cR cR true) (K0_1 : Ko K cR cS false) (K0_2 : Ko K cR cP false) (K0_3 : Ko K cR cC false) (K0_4 : Ko K cR cN false) (K0_5 : Ko K cR cY false) (K0_6 : Ko K cR cL false) (K0_7 : Ko K cR cT false) (K0_8 : Ko K cR cA false) (K0_9 : Ko K cR cO false) (KT0 : KoT K cR "ValueError" true) (X1 : ExcC K cS) (K1_0 : Ko K cS cR false) (K1_1 : Ko K cS cS true) (K1_2 : Ko K cS cP false) (K1_3 : Ko K cS cC false) (K1_4 : Ko K cS cN false) (K1_5 : Ko K cS cY false) (K1_6 : Ko K cS cL false) (K1_7 : Ko K cS cT false) (K1_8 : Ko K cS cA false) (K1_9 : Ko K cS cO false) (KT1 : KoT K cS "ValueError" true) (X2 : ExcC K cP) (K2_0 : Ko K cP cR false) (K2_1 : Ko K cP cS false) (K2_2 : Ko K cP cP true) (K2_3 : Ko K cP cC false) (K2_4 : Ko K cP cN false) (K2_5 : Ko K cP cY false) (K2_6 : Ko K cP cL false) (K2_7 : Ko K cP cT false) (K2_8 : Ko K cP cA false) (K2_9 : Ko K cP cO false) (KT2 : KoT K cP "ValueError" true) : HasE P w K mg base 1 "_law_kinds" (C__law_kinds cR cS cP) := by
  refine has_defE T sc__law_kinds ?_
  rintro c sl ⟨i, h, rfl⟩ f cdv A outer s0 H E p hot hr zn dv
  have nd := sc__law_kinds.nd
  have go : ∀ {c : Addr} {b0 b1 b2 b3 b4 b5 b6 b7 b8 b9 : Bool}, ExcC K c → L2N.Zn (.ref c) none p.2 → Ko K c cR b0 → Ko K c cS b1 → Ko K c cP b2 → Ko K c cC b3 → Ko K c cN b4 → Ko K c cY b5 → Ko K c cL b6 → Ko K c cT b7 → Ko K c cA b8 → Ko K c cO b9 → KoT K c "ValueError" true → HS (cxh P w K mg base ["_law_error", "_law_found"] "_law_kinds" (defScope s__law_kinds) f cdv A outer s0 H E p) (entry ["_law_error", "_law_found"] [.val (.ref p.1)]) (defBody s__law_kinds) (fun _ => Slot.o ([b0, b1, b2, b3, b4, b5, b6, b7, b8, b9, true].map D.bl) = .d .non) (fun s' _ => s' = .o ([b0, b1, b2, b3, b4, b5, b6, b7, b8, b9, true].map D.bl)) := by
    intro c b0 b1 b2 b3 b4 b5 b6 b7 b8 b9 X zn k0 k1 k2 k3 k4 k5 k6 k7 k8 k9 kT
    have sb : ∀ l : List Bool, ∀ d, d ∈ l.map D.bl → Sc d := fun l d hd => by obtain ⟨b, _, rfl⟩ := List.mem_map.mp hd; exact .bl
    refine hs_asgO 1 nd (po_is (po_lst (aq_cons (pp_s (pb_isH B X (List.mem_cons_self ..) zn dv (pb_v 0) G0 k0)) (aq_cons (pp_s (pb_isH B X (List.mem_cons_self ..) zn dv (pb_v 0) G1 k1)) (aq_cons (pp_s (pb_isH B X (List.mem_cons_self ..) zn dv (pb_v 0) G2 k2)) aq_nil)))) (ys := ([b0, b1, b2] : List Bool).map D.bl) rfl) ?_
    refine hs_asgO 1 nd (po_is (po_catB (pb_w 1) (pb_o (po_is (po_lst (aq_cons (pp_s (pb_isH B X (List.mem_cons_self ..) zn dv (pb_v 0) G3 k3)) (aq_cons (pp_s (pb_isH B X (List.mem_cons_self ..) zn dv (pb_v 0) G4 k4)) (aq_cons (pp_s (pb_isH B X (List.mem_cons_self ..) zn dv (pb_v 0) G5 k5)) aq_nil)))) (ys := ([b3, b4, b5] : List Bool).map D.bl) rfl)) (by rw [sizeLine_eq]; exact Nat.le_of_ble_eq_true rfl) (by rw [← List.map_append]; exact sb _)) (ys := ([b0, b1, b2, b3, b4, b5] : List Bool).map D.bl) rfl) ?_
    refine hs_asgO 1 nd (po_is (po_catB (pb_w 1) (pb_o (po_is (po_lst (aq_cons (pp_s (pb_isH B X (List.mem_cons_self ..) zn dv (pb_v 0) G6 k6)) (aq_cons (pp_s (pb_isH B X (List.mem_cons_self ..) zn dv (pb_v 0) G7 k7)) (aq_cons (pp_s (pb_isH B X (List.mem_cons_self ..) zn dv (pb_v 0) G8 k8)) aq_nil)))) (ys := ([b6, b7, b8] : List Bool).map D.bl) rfl)) (by rw [sizeLine_eq]; exact Nat.le_of_ble_eq_true rfl) (by rw [← List.map_append]; exact sb _)) (ys := ([b0, b1, b2, b3, b4, b5, b6, b7, b8] : List Bool).map D.bl) rfl) ?_
    exact hs_retP (po_is (po_catB (pb_w 1) (pb_o (po_is (po_lst (aq_cons (pp_s (pb_isH B X (List.mem_cons_self ..) zn dv (pb_v 0) G9 k9)) (aq_cons (pp_s (pb_isHT B X (List.mem_cons_self ..) zn dv (pb_v 0) VE.is (by decide +kernel) kT)) aq_nil))) (ys := ([b9, true] : List Bool).map D.bl) rfl)) (by rw [sizeLine_eq]; exact Nat.le_of_ble_eq_true rfl) (by rw [← List.map_append]; exact sb _)) (ys := ([b0, b1, b2, b3, b4, b5, b6, b7, b8, b9, true] : List Bool).map D.bl) rfl) rfl
  rcases h with ⟨rfl, rfl⟩ | ⟨rfl, rfl⟩ | ⟨rfl, rfl⟩
  · rw [show kindsB 0 = [true, false, false, false, false, false, false, false, false, false, true] by decide]; exact go X0 zn K0_0 K0_1 K0_2 K0_3 K0_4 K0_5 K0_6 K0_7 K0_8 K0_9 KT0
  · rw [show kindsB 1 = [false, true, false, false, false, false, false, false, false, false, true] by decide]; exact go X1 zn K1_0 K1_1 K1_2 K1_3 K1_4 K1_5 K1_6 K1_7 K1_8 K1_9 KT1
  · rw [show kindsB 2 = [false, false, true, false, false, false, false, false, false, false, true] by decide]; exact go X2 zn K2_0 K2_1 K2_2 K2_3 K2_4 K2_5 K2_6 K2_7 K2_8 K2_9 KT2
variable (P w K mg base) in
def C__law_refused (kk : Nat) (WH : Addr → Int → Prop) : Ct := fun ds s => ∃ L d i c, ∃ C : CtX, ds = [.fn L, d, .int i] ∧ LamY P w K mg base kk L C ∧ C [d] c ∧ WH c i ∧ s = .d (.bl true)
theorem h__law_refused {cE : Addr} (B : Bi mg) (T : Df K mg "_law_refused" s__law_refused ["_law_ask", "_law_thing", "_law_which"]) (GE : Mg mg "RoundError" cE) (Q0 : Cat K cR cE true) (Q1 : Cat K cS cE true) (Q2 : Cat K cP cE true) (H_law_kinds : HasE P w K mg base 1 "_law_kinds" (C__law_kinds cR cS cP)) : Has P w K mg base 7 "_law_refused" [] (C__law_refused P w K mg base 6 (wh cR cS cP)) := by
  refine has_def T sc__law_refused ?_ ?_
  · rintro ds s ⟨_, _, _, _, _, rfl, _⟩; rfl
  rintro ds s ⟨L, d, i, c, C, rfl, hL, hC, hw, rfl⟩ f cdv A outer s0 H E hr
  have nd := sc__law_refused.nd
  have sb : ∀ l : List Bool, ∀ d, d ∈ l.map D.bl → Sc d := fun l d hd => by obtain ⟨b, _, rfl⟩ := List.mem_map.mp hd; exact .bl
  have hcat : Cat K c cE true := by
    rcases hw with ⟨rfl, rfl⟩ | ⟨rfl, rfl⟩ | ⟨rfl, rfl⟩
    · exact Q0
    · exact Q1
    · exact Q2
  refine hs_asgO 3 nd (po_lst aq_nil) ?_
  refine hs_cons (M := fun r => r = [.d (.fn L), .d d, .i i, .o ((kindsB i).map .bl), .un, .un]) (s1_tryAN (r1 := [.d (.fn L), .d d, .i i, .o [], .un, .un]) 4 (fun pn xe => hy_expr (py_lam 0 hL hr (ab_cons (pb_v 1) ab_nil) hC) rfl) nd GE.is hcat fun a oe pn zn dv => ?_) ?_
  · obtain ⟨vs, hv⟩ := dv
    exact hs_asgO 3 nd (po_callE (p0 := (a, oe)) 4 (H_law_kinds.mono (k := 6) (by decide)) ⟨hr.dp, hr.un⟩ ⟨rfl, vs, hv, zn.2.2 vs hv⟩ (List.mem_cons_self ..) zn ⟨vs, hv⟩ ⟨i, hw, rfl⟩ (sb _)) (hs_nil rfl)
  rintro _ rfl
  refine hs_ret (pp_s (pb_is (pb_cmp (cr_eqLB (a := kindsB i) (b := kindsB i) hr) (pb_w 3) (pb_is (pb_o (po_catB (pb_o (po_R B 5 nd (fun k => .bl (decide ((k : Int) = i))) pb_n (by decide) (by decide) (fun k hk s1 H1 C1 cl1 fp1 => pp_s (pb_cmp cr_eq (pb_v 5) (pb_v 2))))) (pb_o (po_lst (aq_cons pp_b aq_nil))) (by rw [sizeLine_eq]; exact Nat.le_of_ble_eq_true rfl) ?_)) (d1 := .lst ((kindsB i).map .bl)) ?_)) (d1 := .bl true) (by rw [decide_eq_true rfl]))) rfl
  · intro d hd
    rcases List.mem_append.mp hd with z | z
    · obtain ⟨k, _, rfl⟩ := List.mem_map.mp z
      exact .bl
    · rw [List.mem_singleton.mp z]; exact .bl
  · unfold kindsB
    rw [List.map_append, List.map_map]; rfl
variable (P w K mg base) in
def C__law_all (kk : Nat) (WH : Addr → Int → Prop) : Ct := fun ds s => ∃ fs ts i, ds = [.lst fs, .lst ts, .int i] ∧ ts.length ≤ sizeLine ∧ (∀ f, f ∈ fs → ∃ L c, ∃ C : CtX, f = .fn L ∧ LamY P w K mg base kk L C ∧ WH c i ∧ ∀ d, d ∈ ts → C [d] c) ∧ s = .d (.bl true)
theorem h__law_all {WH : Addr → Int → Prop} (B : Bi mg) (T : Df K mg "_law_all" s__law_all ["_law_asks", "_law_things", "_law_which"]) (H_law_refused : Has P w K mg base 7 "_law_refused" [] (C__law_refused P w K mg base 6 WH)) : Has P w K mg base 8 "_law_all" [] (C__law_all P w K mg base 6 WH) := by
  refine has_def T sc__law_all ?_ ?_
  · rintro ds s ⟨_, _, _, rfl, _⟩; rfl
  rintro ds s ⟨fs, ts, i, rfl, hl, hf, rfl⟩ f cdv A outer s0 H E hr
  have nd := sc__law_all.nd
  refine hs_cons (M := fun r => r = [.d (.lst fs), .d (.lst ts), .i i, .un, .un]) (s1_forL (fun _ => [.d (.lst fs), .d (.lst ts), .i i, .un, .un]) (fun k => [.d (.lst fs), .d (.lst ts), .i i, .d (fs.getD k .non), .un]) (pp_v 0) Le.refl (fun k d hk => ?_) (fun k d hk => ?_) rfl) ?_
  · rw [getD_of hk]
    exact gq_n 3 nd
  · rw [getD_of hk]
    obtain ⟨L, c, C, rfl, hL, hw, hC⟩ := hf d (List.mem_of_getElem? hk)
    refine hs_no (tq_is (tq_not (tq_v (pb_allF (f := fun _ => true) (l := ts.filter fun _ => true) B (pb_o (po_L 4 nd (fun _ => true) (fun _ => .bl true) (pp_v 1) hl (fun d hd s1 H1 C1 cl1 fp1 => fq_nil) (fun d hd _ s1 H1 C1 cl1 fp1 => pp_s (pb_call H_law_refused hr (ab_cons (pb_v 3) (ab_cons (pb_v 4) (ab_cons (pb_v 2) ab_nil))) ⟨L, d, i, c, C, rfl, hL, hC d hd, hw, rfl⟩))))))) (by simp)) ?_
    exact hs_nil (.same (.same (.same (.drop (.same .nil)))))
  · rintro _ rfl
    exact hs_ret pp_b rfl
end

/-! ### what are no numbers from 0 on -/
def hugeM : Int := (((10 : Int) ^ (50 : Int).toNat) ^ (10 : Int).toNat) ^ (10 : Int).toNat
theorem huge_pos : 0 < hugeM := Int.pow_pos (Int.pow_pos (Int.pow_pos (by decide)))
theorem huge_ok : ∃ z : Int, z = hugeM ∧ 0 < z := ⟨_, rfl, huge_pos⟩
def strangeD (g z : Int) : List D := [.non, .str "1", .bl true, .bl false, .lst [.int 1], .tup [.int 1], .dct, .int (-1), .int (-1 - g), .int (-z)]
theorem bi_int {lo hi i : Int} (h : ¬ (lo ≤ i ∧ i ≤ hi)) : BdI lo hi (.int i) := ⟨⟨_, rfl⟩, by
  rw [okI_int]
  by_cases c : lo ≤ i
  · rw [decide_eq_false fun z => h ⟨c, z⟩]; simp
  · rw [decide_eq_false c]; rfl⟩
theorem strange_bi {g z lo hi : Int} (g0 : 0 ≤ g) (z0 : 0 < z) (l0 : 0 ≤ lo) : ∀ d, d ∈ strangeD g z → BdI lo hi d := by
  intro d hd
  simp only [strangeD, List.mem_cons, List.not_mem_nil, or_false] at hd
  rcases hd with rfl | rfl | rfl | rfl | rfl | rfl | rfl | rfl | rfl | rfl
  · exact ⟨⟨_, rfl⟩, rfl⟩
  · exact ⟨⟨_, rfl⟩, rfl⟩
  · exact ⟨⟨_, rfl⟩, rfl⟩
  · exact ⟨⟨_, rfl⟩, rfl⟩
  · exact ⟨⟨_, rfl⟩, rfl⟩
  · exact ⟨⟨_, rfl⟩, rfl⟩
  · exact ⟨⟨_, rfl⟩, rfl⟩
  · exact bi_int (by omega)
  · exact bi_int (by omega)
  · exact bi_int (by omega)
section
variable {P : Program} {w : World} {K : PySem.W.Frag} {mg : Str → Option Value} {base : Heap}
def C__law_strange : Ct := fun ds s => ∃ g, ds = [.int g] ∧ s = .o (strangeD g hugeM)
theorem h__law_strange (B : Bi mg) (T : Df K mg "_law_strange" s__law_strange ["_law_great"]) : Has P w K mg base 1 "_law_strange" [] C__law_strange := by
  refine has_def T sc__law_strange ?_ ?_
  · rintro ds s ⟨_, rfl, _⟩; rfl
  rintro ds s ⟨g, rfl, rfl⟩ f cdv A outer s0 H E hr
  exact hs_retP (po_lst (aq_cons pp_N (aq_cons pp_t (aq_cons pp_b (aq_cons pp_b (aq_cons (pp_o (po_lst (aq_cons pp_n aq_nil))) (aq_cons (pp_tup (aq_cons pp_n aq_nil)) (aq_cons pp_dct (aq_cons (pp_s (pb_neg pb_n)) (aq_cons (pp_s (pb_sub (pb_neg pb_n) (pb_v 0))) (aq_cons (pp_s (pb_neg (pb_powX (pb_powX (pb_pow pb_n pb_n ⟨by decide, by decide, by decide⟩) pb_n ⟨by decide, by decide +kernel⟩) pb_n ⟨by decide, by decide +kernel⟩))) aq_nil))))))))))) rfl
theorem ct__law_strange {g : Int} : C__law_strange [.int g] (.o (strangeD g hugeM)) := ⟨_, rfl, rfl⟩
end

/-! ### what are no steps -/
def tensD : List D := [.int 10, .int 20, .int 30, .int 40, .int 50, .int 60]
def midD (g : Int) (d : D) : List D := cutD tensD none (some (g % 6)) ++ [d] ++ cutD tensD (some (g % 6 + 1)) none
def threeD (g : Int) (d : D) : List D := [.lst [d], .lst [.int 1, d], .lst (midD g d)]
def noA (g : Int) : List D := [.non, .int 5, .str "12", .tup [.int 1, .int 2], .dct, .lst [], .lst [.int 1, .int 2, .int 3, .int 4, .int 5, .int 6, .int 7], .lst [.int 0], .lst [.int 61], .lst [.int (61 + g)], .lst [.int 2, .int 1], .lst [.int 3, .int 3], .lst [.int 1, .int 2, .int 2]]
def noOnes (g z : Int) : List D := strangeD g z ++ [.int 0, .int 61, .non]
def noAcc (g z : Int) (k : Nat) : List D := noA g ++ ((noOnes g z).take k).flatMap (threeD g)
def noB : List D := [.lst [.int 2, .int 1, .int 3], .lst [.int 1, .int 1, .int 2], .lst [.int 10, .int 30, .int 20, .int 40, .int 50, .int 60]]
def noC : List D := [.lst [.int 10, .int 20, .int 30, .int 40, .int 60, .int 50], .lst [.int 10, .int 20, .int 30, .int 40, .int 50, .int 50], .lst [.int 9, .int 10, .int 11, .int 12, .int 13, .int 61]]
def noD (g z : Int) : List D := noAcc g z 13 ++ noB ++ noC
theorem bad_here {p : Option Int} {d : D} {ds : List D} (h : okI 1 60 d = false) : ∃ j, badAt p (d :: ds) = some j := by
  cases d with
  | int i =>
    unfold badAt
    rw [okI_int] at h
    refine ⟨0, if_neg fun c => ?_⟩
    rw [decide_eq_true c.1, decide_eq_true c.2.1] at h
    cases h
  | _ => exact ⟨0, rfl⟩
theorem bad_next {p : Option Int} {z : Int} {ds : List D} (h : ∃ j, badAt (some z) ds = some j) : ∃ j, badAt p (.int z :: ds) = some j := by
  obtain ⟨j, h⟩ := h
  unfold badAt
  by_cases c : 1 ≤ z ∧ z ≤ 60 ∧ ∀ y, p = some y → y < z
  · exact ⟨j + 1, by rw [if_pos c, h]; rfl⟩
  · exact ⟨0, if_neg c⟩
theorem bad_le {y z : Int} {ds : List D} (h : z ≤ y) : ∃ j, badAt (some y) (.int z :: ds) = some j := by
  unfold badAt
  exact ⟨0, if_neg fun c => by have := c.2.2 y rfl; omega⟩
theorem kn_nil : ∀ x, x ∈ ([] : List D) → ∃ n, tyD x = some n := fun _ h => by cases h
theorem kn_cons {d : D} {ds : List D} (h : ∃ n, tyD d = some n) (t : ∀ x, x ∈ ds → ∃ n, tyD x = some n) : ∀ x, x ∈ d :: ds → ∃ n, tyD x = some n := fun x hx => by
  rcases List.mem_cons.mp hx with rfl | hx
  · exact h
  · exact t x hx
theorem kn_i {i : Int} {ds : List D} (t : ∀ x, x ∈ ds → ∃ n, tyD x = some n) : ∀ x, x ∈ D.int i :: ds → ∃ n, tyD x = some n := kn_cons ⟨_, rfl⟩ t
theorem bs_bad {m : Int} {xs : List D} (k : ∀ x, x ∈ xs → ∃ n, tyD x = some n) (h : ∃ j, badAt none xs = some j) : BdS m (.lst xs) := .inr ⟨xs, rfl, k, .inr h⟩
theorem bs_len {m : Int} {xs : List D} (k : ∀ x, x ∈ xs → ∃ n, tyD x = some n) (h : ¬ (1 ≤ (xs.length : Int) ∧ (xs.length : Int) ≤ m)) : BdS m (.lst xs) := .inr ⟨xs, rfl, k, .inl h⟩
theorem bs_no {m : Int} {d : D} {n : String} (h : tyD d = some n) (ne : n ≠ "list") : BdS m d := .inl ⟨n, h, ne⟩
theorem three_bs {m g : Int} {d : D} (h : BdI 1 60 d) : ∀ x, x ∈ threeD g d → BdS m x := by
  intro x hx
  simp only [threeD, List.mem_cons, List.not_mem_nil, or_false] at hx
  rcases hx with rfl | rfl | rfl
  · exact bs_bad (kn_cons h.1 kn_nil) (bad_here h.2)
  · exact bs_bad (kn_i (kn_cons h.1 kn_nil)) (bad_next (bad_here h.2))
  · have h0 := Int.emod_nonneg g (by decide : (6 : Int) ≠ 0)
    have h1 := Int.emod_lt_of_pos g (by decide : (0 : Int) < 6)
    have c : g % 6 = 0 ∨ g % 6 = 1 ∨ g % 6 = 2 ∨ g % 6 = 3 ∨ g % 6 = 4 ∨ g % 6 = 5 := by omega
    unfold midD
    rcases c with c | c | c | c | c | c <;> rw [c]
    · exact bs_bad (xs := [d, .int 20, .int 30, .int 40, .int 50, .int 60]) (kn_cons h.1 (kn_i (kn_i (kn_i (kn_i (kn_i kn_nil)))))) (bad_here h.2)
    · exact bs_bad (xs := [.int 10, d, .int 30, .int 40, .int 50, .int 60]) (kn_i (kn_cons h.1 (kn_i (kn_i (kn_i (kn_i kn_nil)))))) (bad_next (bad_here h.2))
    · exact bs_bad (xs := [.int 10, .int 20, d, .int 40, .int 50, .int 60]) (kn_i (kn_i (kn_cons h.1 (kn_i (kn_i (kn_i kn_nil)))))) (bad_next (bad_next (bad_here h.2)))
    · exact bs_bad (xs := [.int 10, .int 20, .int 30, d, .int 50, .int 60]) (kn_i (kn_i (kn_i (kn_cons h.1 (kn_i (kn_i kn_nil)))))) (bad_next (bad_next (bad_next (bad_here h.2))))
    · exact bs_bad (xs := [.int 10, .int 20, .int 30, .int 40, d, .int 60]) (kn_i (kn_i (kn_i (kn_i (kn_cons h.1 (kn_i kn_nil)))))) (bad_next (bad_next (bad_next (bad_next (bad_here h.2)))))
    · exact bs_bad (xs := [.int 10, .int 20, .int 30, .int 40, .int 50, d]) (kn_i (kn_i (kn_i (kn_i (kn_i (kn_cons h.1 kn_nil)))))) (bad_next (bad_next (bad_next (bad_next (bad_next (bad_here h.2))))))
theorem noA_bs {m g : Int} (g0 : 0 ≤ g) (m6 : m ≤ 6) : ∀ x, x ∈ noA g → BdS m x := by
  intro x hx
  simp only [noA, List.mem_cons, List.not_mem_nil, or_false] at hx
  rcases hx with rfl | rfl | rfl | rfl | rfl | rfl | rfl | rfl | rfl | rfl | rfl | rfl | rfl
  · exact bs_no rfl (by decide)
  · exact bs_no rfl (by decide)
  · exact bs_no rfl (by decide)
  · exact bs_no rfl (by decide)
  · exact bs_no rfl (by decide)
  · exact bs_len kn_nil (by simp)
  · exact bs_len (kn_i (kn_i (kn_i (kn_i (kn_i (kn_i (kn_i kn_nil))))))) (by intro h; have h2 : (7 : Int) ≤ m := h.2; omega)
  · exact bs_bad (kn_i kn_nil) (bad_here (by decide))
  · exact bs_bad (kn_i kn_nil) (bad_here (by decide))
  · exact bs_bad (kn_i kn_nil) (bad_here (bi_int (by omega)).2)
  · exact bs_bad (kn_i (kn_i kn_nil)) (bad_next (bad_le (by decide)))
  · exact bs_bad (kn_i (kn_i kn_nil)) (bad_next (bad_le (by decide)))
  · exact bs_bad (kn_i (kn_i (kn_i kn_nil))) (bad_next (bad_next (bad_le (by decide))))
theorem noBC_bs {m : Int} : ∀ x, x ∈ noB ++ noC → BdS m x := by
  intro x hx
  have kn6 : ∀ a b c d e f : Int, ∀ x, x ∈ [D.int a, .int b, .int c, .int d, .int e, .int f] → ∃ n, tyD x = some n := fun _ _ _ _ _ _ => kn_i (kn_i (kn_i (kn_i (kn_i (kn_i kn_nil)))))
  simp only [noB, noC, List.cons_append, List.nil_append, List.mem_cons, List.not_mem_nil, or_false] at hx
  rcases hx with rfl | rfl | rfl | rfl | rfl | rfl
  · exact bs_bad (kn_i (kn_i (kn_i kn_nil))) (bad_next (bad_le (by decide)))
  · exact bs_bad (kn_i (kn_i (kn_i kn_nil))) (bad_next (bad_le (by decide)))
  · exact bs_bad (kn6 _ _ _ _ _ _) (bad_next (bad_next (bad_le (by decide))))
  · exact bs_bad (kn6 _ _ _ _ _ _) (bad_next (bad_next (bad_next (bad_next (bad_next (bad_le (by decide)))))))
  · exact bs_bad (kn6 _ _ _ _ _ _) (bad_next (bad_next (bad_next (bad_next (bad_next (bad_le (by decide)))))))
  · exact bs_bad (kn6 _ _ _ _ _ _) (bad_next (bad_next (bad_next (bad_next (bad_next (bad_here (by decide)))))))
theorem ones_bi {g z : Int} (g0 : 0 ≤ g) (z0 : 0 < z) : ∀ d, d ∈ noOnes g z → BdI 1 60 d := by
  intro d hd
  rcases List.mem_append.mp hd with h | h
  · exact strange_bi g0 z0 (by decide) d h
  · simp only [List.mem_cons, List.not_mem_nil, or_false] at h
    rcases h with rfl | rfl | rfl
    · exact bi_int (by decide)
    · exact bi_int (by decide)
    · exact ⟨⟨_, rfl⟩, rfl⟩
theorem noD_bs {m g z : Int} (g0 : 0 ≤ g) (z0 : 0 < z) (m6 : m ≤ 6) : ∀ x, x ∈ noD g z → BdS m x := by
  intro x hx
  rw [noD, List.append_assoc] at hx
  rcases List.mem_append.mp hx with h | h
  · rcases List.mem_append.mp h with h | h
    · exact noA_bs g0 m6 x h
    · obtain ⟨d, hd, hx⟩ := List.mem_flatMap.mp h
      exact three_bs (ones_bi g0 z0 d (List.mem_of_mem_take hd)) x hx
  · exact noBC_bs x h
theorem noAcc_len (g z : Int) (k : Nat) : (noAcc g z k).length ≤ 52 := by
  unfold noAcc
  have h : ∀ l : List D, (l.flatMap (threeD g)).length = 3 * l.length := fun l => by
    induction l with
    | nil => rfl
    | cons d l ih => rw [List.flatMap_cons, List.length_append, ih, List.length_cons]; show 3 + _ = _; omega
  rw [List.length_append, h, List.length_take]
  have e1 : (noA g).length = 13 := rfl
  have e2 : (noOnes g z).length = 13 := rfl
  rw [e1, e2]
  omega
theorem noAcc_step {g z : Int} {k : Nat} {d : D} (h : (noOnes g z)[k]? = some d) : noAcc g z k ++ threeD g d = noAcc g z (k + 1) := by
  unfold noAcc
  obtain ⟨hk, e⟩ := List.getElem?_eq_some_iff.mp h
  rw [List.take_succ_eq_append_getElem hk, List.flatMap_append, e, List.append_assoc]
  simp
theorem noD_len (g z : Int) : (noD g z).length ≤ sizeLine := by
  have h := noAcc_len g z 13
  have e1 : noB.length = 3 := rfl
  have e2 : noC.length = 3 := rfl
  rw [noD, List.length_append, List.length_append, e1, e2, sizeLine_eq]
  omega
section
variable {P : Program} {w : World} {K : PySem.W.Frag} {mg : Str → Option Value} {base : Heap}
def C__law_no_steps : Ct := fun ds s => ∃ g, ds = [.int g] ∧ s = .d (.lst (noD g hugeM))
theorem h__law_no_steps (B : Bi mg) (T : Df K mg "_law_no_steps" s__law_no_steps ["_law_great"]) (H_law_strange : Has P w K mg base 1 "_law_strange" [] C__law_strange) : Has P w K mg base 2 "_law_no_steps" [] C__law_no_steps := by
  refine has_def T sc__law_no_steps ?_ ?_
  · rintro ds s ⟨_, rfl, _⟩; rfl
  rintro ds s ⟨g, rfl, rfl⟩ f cdv A outer s0 H E hr
  have nd := sc__law_no_steps.nd
  have cs := ct__law_strange (g := g)
  generalize hugeM = z at cs ⊢
  have len : ∀ k l, l ≤ 10 → (noAcc g z k).length + l ≤ sizeLine := fun k l hl => by have := noAcc_len g z k; rw [sizeLine_eq]; omega
  have g0 := Int.emod_nonneg g (by decide : (6 : Int) ≠ 0)
  refine hs_asgO 1 nd (po_is (ys := noAcc g z 0) (po_lst (aq_cons pp_N (aq_cons pp_n (aq_cons pp_t (aq_cons (pp_tup (aq_cons pp_n (aq_cons pp_n aq_nil))) (aq_cons pp_dct (aq_cons (pp_o (po_lst aq_nil)) (aq_cons (pp_o (po_lst (aq_cons pp_n (aq_cons pp_n (aq_cons pp_n (aq_cons pp_n (aq_cons pp_n (aq_cons pp_n (aq_cons pp_n aq_nil))))))))) (aq_cons (pp_o (po_lst (aq_cons pp_n aq_nil))) (aq_cons (pp_o (po_lst (aq_cons pp_n aq_nil)))
    (aq_cons (pp_o (po_lst (aq_cons (pp_s (pb_add pb_n (pb_v 0))) aq_nil))) (aq_cons (pp_o (po_lst (aq_cons pp_n (aq_cons pp_n aq_nil)))) (aq_cons (pp_o (po_lst (aq_cons pp_n (aq_cons pp_n aq_nil)))) (aq_cons (pp_o (po_lst (aq_cons pp_n (aq_cons pp_n (aq_cons pp_n aq_nil))))) aq_nil)))))))))))))) ?_) ?_
  · simp [noAcc, noA]
  refine hs_cons (M := fun r => r = [.i g, .o (noAcc g z 13), .un, .un]) (s1_forL (ds := noOnes g z) (fun k => [.i g, .o (noAcc g z k), .un, .un]) (fun k => [.i g, .o (noAcc g z k), .d ((noOnes g z).getD k .non), .un]) (pp_o (po_cat (pp_o (po_call (H_law_strange.mono (by decide)) hr (aq_cons (pp_v 0) aq_nil) cs)) (pp_o (po_lst (aq_cons pp_n (aq_cons pp_n (aq_cons pp_N aq_nil))))) (by rw [sizeLine_eq]; exact Nat.le_of_ble_eq_true rfl))) Le.refl (fun k d hk => ?_) (fun k d hk => ?_) rfl) ?_
  · rw [getD_of hk]
    exact gq_n 2 nd
  · rw [getD_of hk]
    refine hs_asg 3 nd (pp_s (pb_mod (pb_v 0) pb_n (by decide))) ?_
    have l1 := cutD_le tensD none (some (g % 6))
    have l2 := cutD_le tensD (some (g % 6 + 1)) none
    have l6 : tensD.length = 6 := rfl
    refine hs_asgLO 1 nd (plo_is (plo_catV (ys := threeD g d) 1 (pl_p (pp_o (po_lst (aq_cons (pp_o (po_lst (aq_cons (pp_v 2) aq_nil))) (aq_cons (pp_o (po_lst (aq_cons pp_n (aq_cons (pp_v 2) aq_nil)))) (aq_cons (pp_o (po_cat (xs := cutD tensD none (some (g % 6)) ++ [d]) (ys := cutD tensD (some (g % 6 + 1)) none)
      (pp_o (po_cat (xs := cutD tensD none (some (g % 6))) (pp_o (po_cut (xs := tensD) (pp_o (po_lst (aq_cons pp_n (aq_cons pp_n (aq_cons pp_n (aq_cons pp_n (aq_cons pp_n (aq_cons pp_n aq_nil)))))))) eqN (eqS (pb_v 3)))) (pp_o (po_lst (aq_cons (pp_v 2) aq_nil))) ?_))
      (pp_o (po_cut (xs := tensD) (pp_o (po_lst (aq_cons pp_n (aq_cons pp_n (aq_cons pp_n (aq_cons pp_n (aq_cons pp_n (aq_cons pp_n aq_nil)))))))) (eqS (pb_add (pb_v 3) pb_n)) eqN)) ?_)) aq_nil)))))) (len k 3 (by decide))) (noAcc_step hk)) ?_
    · rw [sizeLine_eq]; show _ + 1 ≤ _; omega
    · rw [List.length_append, sizeLine_eq]; show _ + 1 + _ ≤ _; omega
    exact hs_nil (.same (.same (.drop (.drop .nil))))
  · rintro _ rfl
    refine hs_asgLO 1 nd (plo_catV (xs := noAcc g z 13) (ys := noB) 1 (pl_p (pp_o (po_lst (aq_cons (pp_o (po_lst (aq_cons pp_n (aq_cons pp_n (aq_cons pp_n aq_nil))))) (aq_cons (pp_o (po_lst (aq_cons pp_n (aq_cons pp_n (aq_cons pp_n aq_nil))))) (aq_cons (pp_o (po_lst (aq_cons pp_n (aq_cons pp_n (aq_cons pp_n (aq_cons pp_n (aq_cons pp_n (aq_cons pp_n aq_nil)))))))) aq_nil)))))) (len 13 3 (by decide))) ?_
    refine hs_retL (pl_o (plo_catV (xs := noAcc g z 13 ++ noB) (ys := noC) 1 (pl_p (pp_o (po_lst (aq_cons (pp_o (po_lst (aq_cons pp_n (aq_cons pp_n (aq_cons pp_n (aq_cons pp_n (aq_cons pp_n (aq_cons pp_n aq_nil)))))))) (aq_cons (pp_o (po_lst (aq_cons pp_n (aq_cons pp_n (aq_cons pp_n (aq_cons pp_n (aq_cons pp_n (aq_cons pp_n aq_nil)))))))) (aq_cons (pp_o (po_lst (aq_cons pp_n (aq_cons pp_n (aq_cons pp_n (aq_cons pp_n (aq_cons pp_n (aq_cons pp_n aq_nil)))))))) aq_nil)))))) ?_)) rfl
    rw [List.length_append]
    exact len 13 6 (by decide)
theorem ct__law_no_steps {g : Int} : C__law_no_steps [.int g] (.d (.lst (noD g hugeM))) := ⟨_, rfl, rfl⟩
end

/-! ### the lambdas -/
theorem rs51 : RS 5 [1] := rs_of (by decide)
section
variable {P : Program} {w : World} {K : PySem.W.Frag} {mg : Str → Option Value} {base : Heap} {cR cS cP CW : Addr}
abbrev q_w : Str := (("law" : Str) ++ ".<locals>.") ++ "<lambda>"
def Lw0 : LF := lamE q_w (atS (nthS (inS (nthS (defBody s_law) 0)) 1) [0])
def Lw1 : LF := lamE q_w (atS (nthS (inS (nthS (defBody s_law) 0)) 1) [1])
def Lw2 : LF := lamE q_w (atS (nthS (inS (nthS (defBody s_law) 0)) 1) [2])
def Lw3 : LF := lamE q_w (atS (nthS (inS (nthS (defBody s_law) 0)) 2) [1, 0])
def Lw4 : LF := lamE q_w (atS (nthS (inS (nthS (defBody s_law) 0)) 2) [1, 1])
def Lw5 : LF := lamE q_w (atS (nthS (inS (nthS (defBody s_law) 0)) 3) [1, 0])
def Lw6 : LF := lamE q_w (atS (nthS (inS (nthS (defBody s_law) 0)) 3) [1, 1])
def Lw7 : LF := lamE q_w (atS (nthS (inS (nthS (defBody s_law) 0)) 4) [1, 0])
def Lw8 : LF := lamE q_w (atS (nthS (inS (nthS (defBody s_law) 0)) 4) [1, 1])
def Lw9 : LF := lamE q_w (atS (nthS (inS (nthS (defBody s_law) 0)) 4) [1, 2])
def Lw10 : LF := lamE q_w (atS (nthS (inS (nthS (defBody s_law) 0)) 5) [1, 0])
def Lw11 : LF := lamE q_w (atS (nthS (inS (nthS (defBody s_law) 0)) 5) [1, 1])
def Lw12 : LF := lamE q_w (atS (nthS (inS (nthS (defBody s_law) 0)) 6) [1])
def Lw13 : LF := lamE q_w (atS (nthS (inS (nthS (defBody s_law) 0)) 8) [0, 1, 0])
abbrev q_s : Str := (("_law_steps_right" : Str) ++ ".<locals>.") ++ "<lambda>"
def Ls0 : LF := lamE q_s (atS (nthS (defBody s__law_steps_right) 0) [0])
def Ls1 : LF := lamE q_s (atS (nthS (defBody s__law_steps_right) 0) [1])
def Ls2 : LF := lamE q_s (atS (nthS (defBody s__law_steps_right) 0) [2])
def Ls3 : LF := lamE q_s (atS (nthS (defBody s__law_steps_right) 1) [1, 0])
def Ls4 : LF := lamE q_s (atS (nthS (defBody s__law_steps_right) 1) [1, 1])
def Ls5 : LF := lamE q_s (atS (nthS (defBody s__law_steps_right) 2) [1, 0])
def Ls6 : LF := lamE q_s (atS (nthS (defBody s__law_steps_right) 2) [1, 1])
def Ls7 : LF := lamE q_s (atS (nthS (defBody s__law_steps_right) 3) [1, 0])
def Ls8 : LF := lamE q_s (atS (nthS (defBody s__law_steps_right) 3) [1, 1])
def Ls9 : LF := lamE q_s (atS (nthS (defBody s__law_steps_right) 3) [1, 2])
def Ls10 : LF := lamE q_s (atS (nthS (defBody s__law_steps_right) 4) [1, 0])
def Ls11 : LF := lamE q_s (atS (nthS (defBody s__law_steps_right) 4) [1, 1])
def Ls12 : LF := lamE q_s (atS (nthS (defBody s__law_steps_right) 5) [0, 1, 0])
abbrev q_p : Str := (("_law_places_right" : Str) ++ ".<locals>.") ++ "<lambda>"
def Lp0 : LF := lamE q_p (atS (nthS (defBody s__law_places_right) 0) [0])
def Lp1 : LF := lamE q_p (atS (nthS (defBody s__law_places_right) 0) [1])
def Lp2 : LF := lamE q_p (atS (nthS (defBody s__law_places_right) 0) [2])
def Lp3 : LF := lamE q_p (atS (nthS (defBody s__law_places_right) 1) [1, 0])
def Lp4 : LF := lamE q_p (atS (nthS (defBody s__law_places_right) 1) [1, 1])
def Lp5 : LF := lamE q_p (atS (nthS (defBody s__law_places_right) 2) [1, 0])
def Lp6 : LF := lamE q_p (atS (nthS (defBody s__law_places_right) 2) [1, 1])
def Lp7 : LF := lamE q_p (atS (nthS (defBody s__law_places_right) 3) [1, 0])
def Lp8 : LF := lamE q_p (atS (nthS (defBody s__law_places_right) 3) [1, 1])
def Lp9 : LF := lamE q_p (atS (nthS (defBody s__law_places_right) 4) [1])
def Lp10 : LF := lamE q_p (atS (nthS (defBody s__law_places_right) 5) [1, 0])
def Lp11 : LF := lamE q_p (atS (nthS (defBody s__law_places_right) 5) [1, 1])
def Lp12 : LF := lamE q_p (atS (nthS (defBody s__law_places_right) 6) [1])
theorem y_Lw0 (HtoldY : HasY P w K mg base 4 "told" [] (Y_told cR cS cP)) : LamY P w K mg base 6 Lw0 (fun ds c => ∃ d, ds = [d] ∧ BdI 1 60 d ∧ c = cR) := by
  refine lamY_mk (N := ["_law_one"]) (ps := ["_law_one"]) ⟨rfl, rfl, rfl, by decide +kernel, rfl, by decide +kernel, by decide +kernel⟩ rfl (fun pm cv ctv us hl => match us, hl with | [_], _ => rfl) (by rintro ds c ⟨d, rfl, _⟩; rfl) ?_
  rintro ds c ⟨d, rfl, h, rfl⟩ f cdv A outer s0 H E hr
  exact py_call (HtoldY.mono (k := 5) (by decide)) hr (ab_cons (pb_v 0) (ab_cons pb_N (ab_cons pb_N (ab_cons pb_N ab_nil)))) ⟨_, _, _, _, rfl, .inl ⟨h, rfl⟩⟩
theorem y_Lw1 (HnearestY : HasY P w K mg base 4 "nearest" [] (Y_nearest cR cS cP)) : LamY P w K mg base 6 Lw1 (fun ds c => ∃ d, ds = [d] ∧ BdI 1 60 d ∧ c = cR) := by
  refine lamY_mk (N := ["_law_two"]) (ps := ["_law_two"]) ⟨rfl, rfl, rfl, by decide +kernel, rfl, by decide +kernel, by decide +kernel⟩ rfl (fun pm cv ctv us hl => match us, hl with | [_], _ => rfl) (by rintro ds c ⟨d, rfl, _⟩; rfl) ?_
  rintro ds c ⟨d, rfl, h, rfl⟩ f cdv A outer s0 H E hr
  exact py_call (HnearestY.mono (k := 5) (by decide)) hr (ab_cons (pb_v 0) (ab_cons pb_N (ab_cons pb_N ab_nil))) ⟨_, _, _, rfl, .inl ⟨h, rfl⟩⟩
theorem y_Lw2 (HfarY : HasY P w K mg base 4 "far" [] (Y_far cR cS)) : LamY P w K mg base 6 Lw2 (fun ds c => ∃ d, ds = [d] ∧ BdI 1 60 d ∧ c = cR) := by
  refine lamY_mk (N := ["_law_it"]) (ps := ["_law_it"]) ⟨rfl, rfl, rfl, by decide +kernel, rfl, by decide +kernel, by decide +kernel⟩ rfl (fun pm cv ctv us hl => match us, hl with | [_], _ => rfl) (by rintro ds c ⟨d, rfl, _⟩; rfl) ?_
  rintro ds c ⟨d, rfl, h, rfl⟩ f cdv A outer s0 H E hr
  exact py_call (HfarY.mono (k := 5) (by decide)) hr (ab_cons (pb_v 0) (ab_cons pb_N ab_nil)) ⟨_, _, rfl, .inl ⟨h, rfl⟩⟩
theorem y_Lw3 (Hhow_manyY : HasY P w K mg base 5 "how_many" [] (Y_how_many cR cS cP)) : LamY P w K mg base 6 Lw3 (fun ds c => ∃ d, ds = [d] ∧ BdI 1 60 d ∧ c = cR) := by
  refine lamY_mk (N := ["_law_one"]) (ps := ["_law_one"]) ⟨rfl, rfl, rfl, by decide +kernel, rfl, by decide +kernel, by decide +kernel⟩ rfl (fun pm cv ctv us hl => match us, hl with | [_], _ => rfl) (by rintro ds c ⟨d, rfl, _⟩; rfl) ?_
  rintro ds c ⟨d, rfl, h, rfl⟩ f cdv A outer s0 H E hr
  exact py_call Hhow_manyY hr (ab_cons (pb_v 0) (ab_cons pb_N (ab_cons pb_N (ab_cons pb_N (ab_cons pb_N ab_nil))))) ⟨_, _, _, _, _, rfl, .inl ⟨h, rfl⟩⟩
theorem y_Lw4 (Hway_byY : HasY P w K mg base 5 "way_by" [] (Y_way_by cR cS cP)) : LamY P w K mg base 6 Lw4 (fun ds c => ∃ d, ds = [d] ∧ BdI 1 60 d ∧ c = cR) := by
  refine lamY_mk (N := ["_law_two"]) (ps := ["_law_two"]) ⟨rfl, rfl, rfl, by decide +kernel, rfl, by decide +kernel, by decide +kernel⟩ rfl (fun pm cv ctv us hl => match us, hl with | [_], _ => rfl) (by rintro ds c ⟨d, rfl, _⟩; rfl) ?_
  rintro ds c ⟨d, rfl, h, rfl⟩ f cdv A outer s0 H E hr
  exact py_call Hway_byY hr (ab_cons (pb_v 0) (ab_cons pb_n (ab_cons pb_n (ab_cons pb_n (ab_cons pb_n (ab_cons pb_n ab_nil)))))) ⟨_, _, _, _, _, _, rfl, .inl ⟨h, rfl⟩⟩
theorem y_Lw5 (Hnumber_ofY : HasY P w K mg base 4 "number_of" [] (Y_number_of cR cS)) : LamY P w K mg base 6 Lw5 (fun ds c => ∃ d, ds = [d] ∧ BdI 1 60 d ∧ c = cR) := by
  refine lamY_mk (N := ["_law_one"]) (ps := ["_law_one"]) ⟨rfl, rfl, rfl, by decide +kernel, rfl, by decide +kernel, by decide +kernel⟩ rfl (fun pm cv ctv us hl => match us, hl with | [_], _ => rfl) (by rintro ds c ⟨d, rfl, _⟩; rfl) ?_
  rintro ds c ⟨d, rfl, h, rfl⟩ f cdv A outer s0 H E hr
  exact py_call (Hnumber_ofY.mono (k := 5) (by decide)) hr (ab_cons (pb_v 0) (ab_cons pb_N (ab_cons pb_N ab_nil))) ⟨_, _, _, rfl, .inl ⟨h, rfl⟩⟩
theorem y_Lw6 (HafterY : HasY P w K mg base 4 "after" [] (Y_after cR cS cP)) : LamY P w K mg base 6 Lw6 (fun ds c => ∃ d, ds = [d] ∧ BdI 1 60 d ∧ c = cR) := by
  refine lamY_mk (N := ["_law_two"]) (ps := ["_law_two"]) ⟨rfl, rfl, rfl, by decide +kernel, rfl, by decide +kernel, by decide +kernel⟩ rfl (fun pm cv ctv us hl => match us, hl with | [_], _ => rfl) (by rintro ds c ⟨d, rfl, _⟩; rfl) ?_
  rintro ds c ⟨d, rfl, h, rfl⟩ f cdv A outer s0 H E hr
  exact py_call (HafterY.mono (k := 5) (by decide)) hr (ab_cons (pb_v 0) (ab_cons pb_N (ab_cons pb_N (ab_cons pb_N ab_nil)))) ⟨_, _, _, _, rfl, .inl ⟨h, rfl⟩⟩
theorem y_Lw7 (HeveryY : HasY P w K mg base 4 "every" [] (Y_every cR cS)) : LamY P w K mg base 6 Lw7 (fun ds c => ∃ d, ds = [d] ∧ BdI 1 60 d ∧ c = cR) := by
  refine lamY_mk (N := ["_law_one"]) (ps := ["_law_one"]) ⟨rfl, rfl, rfl, by decide +kernel, rfl, by decide +kernel, by decide +kernel⟩ rfl (fun pm cv ctv us hl => match us, hl with | [_], _ => rfl) (by rintro ds c ⟨d, rfl, _⟩; rfl) ?_
  rintro ds c ⟨d, rfl, h, rfl⟩ f cdv A outer s0 H E hr
  exact py_call (HeveryY.mono (k := 5) (by decide)) hr (ab_cons (pb_v 0) (ab_cons pb_N ab_nil)) ⟨_, _, rfl, .inl ⟨h, rfl⟩⟩
theorem y_Lw8 (HaddedY : HasY P w K mg base 4 "added" [] (Y_added cR cS)) : LamY P w K mg base 6 Lw8 (fun ds c => ∃ d, ds = [d] ∧ BdI 1 60 d ∧ c = cR) := by
  refine lamY_mk (N := ["_law_two"]) (ps := ["_law_two"]) ⟨rfl, rfl, rfl, by decide +kernel, rfl, by decide +kernel, by decide +kernel⟩ rfl (fun pm cv ctv us hl => match us, hl with | [_], _ => rfl) (by rintro ds c ⟨d, rfl, _⟩; rfl) ?_
  rintro ds c ⟨d, rfl, h, rfl⟩ f cdv A outer s0 H E hr
  exact py_call (HaddedY.mono (k := 5) (by decide)) hr (ab_cons (pb_v 0) (ab_cons pb_N ab_nil)) ⟨_, _, rfl, .inl ⟨h, rfl⟩⟩
theorem y_Lw9 (HtwosY : HasY P w K mg base 4 "twos" [] (Y_twos cR cS)) : LamY P w K mg base 6 Lw9 (fun ds c => ∃ d, ds = [d] ∧ BdI 1 60 d ∧ c = cR) := by
  refine lamY_mk (N := ["_law_it"]) (ps := ["_law_it"]) ⟨rfl, rfl, rfl, by decide +kernel, rfl, by decide +kernel, by decide +kernel⟩ rfl (fun pm cv ctv us hl => match us, hl with | [_], _ => rfl) (by rintro ds c ⟨d, rfl, _⟩; rfl) ?_
  rintro ds c ⟨d, rfl, h, rfl⟩ f cdv A outer s0 H E hr
  exact py_call (HtwosY.mono (k := 5) (by decide)) hr (ab_cons (pb_v 0) (ab_cons pb_N ab_nil)) ⟨_, _, rfl, .inl ⟨h, rfl⟩⟩
theorem y_Lw10 (Htold_backY : HasY P w K mg base 4 "told_back" [] (Y_told_back cR)) : LamY P w K mg base 6 Lw10 (fun ds c => ∃ d, ds = [d] ∧ BdI 1 8 d ∧ c = cR) := by
  refine lamY_mk (N := ["_law_one"]) (ps := ["_law_one"]) ⟨rfl, rfl, rfl, by decide +kernel, rfl, by decide +kernel, by decide +kernel⟩ rfl (fun pm cv ctv us hl => match us, hl with | [_], _ => rfl) (by rintro ds c ⟨d, rfl, _⟩; rfl) ?_
  rintro ds c ⟨d, rfl, h, rfl⟩ f cdv A outer s0 H E hr
  exact py_call (Htold_backY.mono (k := 5) (by decide)) hr (ab_cons (pb_v 0) (ab_cons pb_N ab_nil)) ⟨_, _, rfl, h, rfl⟩
theorem y_Lw11 (HjudgedY : HasY P w K mg base 4 "judged" [] (Y_judged cR cS cP)) : LamY P w K mg base 6 Lw11 (fun ds c => ∃ d, ds = [d] ∧ BdI 1 60 d ∧ c = cR) := by
  refine lamY_mk (N := ["_law_two"]) (ps := ["_law_two"]) ⟨rfl, rfl, rfl, by decide +kernel, rfl, by decide +kernel, by decide +kernel⟩ rfl (fun pm cv ctv us hl => match us, hl with | [_], _ => rfl) (by rintro ds c ⟨d, rfl, _⟩; rfl) ?_
  rintro ds c ⟨d, rfl, h, rfl⟩ f cdv A outer s0 H E hr
  exact py_call (HjudgedY.mono (k := 5) (by decide)) hr (ab_cons (pb_v 0) (ab_cons pb_N (ab_cons pb_N (ab_cons pb_N ab_nil)))) ⟨_, _, _, _, rfl, .inl ⟨h, rfl⟩⟩
theorem y_Lw12 (HWalkerY : HasNY P w K mg base 4 "Walker" CW (Y_Walker cR cS cP)) : LamY P w K mg base 6 Lw12 (fun ds c => ∃ d, ds = [d] ∧ BdI 1 60 d ∧ c = cR) := by
  refine lamY_mk (N := ["_law_one"]) (ps := ["_law_one"]) ⟨rfl, rfl, rfl, by decide +kernel, rfl, by decide +kernel, by decide +kernel⟩ rfl (fun pm cv ctv us hl => match us, hl with | [_], _ => rfl) (by rintro ds c ⟨d, rfl, _⟩; rfl) ?_
  rintro ds c ⟨d, rfl, h, rfl⟩ f cdv A outer s0 H E hr
  exact py_make HWalkerY hr (ab_cons (pb_v 0) (ab_cons pb_N (ab_cons pb_N ab_nil))) fun v => ⟨v, _, _, _, rfl, .inl ⟨h, rfl⟩⟩
theorem y_Lw13 (Htold_backY : HasY P w K mg base 4 "told_back" [] (Y_told_back cR)) : LamY P w K mg base 6 Lw13 (fun ds c => ∃ d, ds = [d] ∧ BdI 1 8 d ∧ c = cR) := by
  refine lamY_mk (N := ["_law_one"]) (ps := ["_law_one"]) ⟨rfl, rfl, rfl, by decide +kernel, rfl, by decide +kernel, by decide +kernel⟩ rfl (fun pm cv ctv us hl => match us, hl with | [_], _ => rfl) (by rintro ds c ⟨d, rfl, _⟩; rfl) ?_
  rintro ds c ⟨d, rfl, h, rfl⟩ f cdv A outer s0 H E hr
  exact py_call (Htold_backY.mono (k := 5) (by decide)) hr (ab_cons (pb_v 0) (ab_cons pb_N ab_nil)) ⟨_, _, rfl, h, rfl⟩
theorem y_Ls0 (HtoldY : HasY P w K mg base 4 "told" [] (Y_told cR cS cP)) : LamY P w K mg base 6 Ls0 (fun ds c => ∃ d, ds = [d] ∧ BdS 6 d ∧ c = cS) := by
  refine lamY_mk (N := ["_law_one"]) (ps := ["_law_one"]) ⟨rfl, rfl, rfl, by decide +kernel, rfl, by decide +kernel, by decide +kernel⟩ rfl (fun pm cv ctv us hl => match us, hl with | [_], _ => rfl) (by rintro ds c ⟨d, rfl, _⟩; rfl) ?_
  rintro ds c ⟨d, rfl, h, rfl⟩ f cdv A outer s0 H E hr
  exact py_call (HtoldY.mono (k := 5) (by decide)) hr (ab_cons pb_n (ab_cons (pb_v 0) (ab_cons pb_N (ab_cons pb_N ab_nil)))) ⟨_, _, _, _, rfl, .inr (.inl ⟨⟨_, rfl, by decide, by decide, h⟩, rfl⟩)⟩
theorem y_Ls1 (HnearestY : HasY P w K mg base 4 "nearest" [] (Y_nearest cR cS cP)) : LamY P w K mg base 6 Ls1 (fun ds c => ∃ d, ds = [d] ∧ BdS 6 d ∧ c = cS) := by
  refine lamY_mk (N := ["_law_two"]) (ps := ["_law_two"]) ⟨rfl, rfl, rfl, by decide +kernel, rfl, by decide +kernel, by decide +kernel⟩ rfl (fun pm cv ctv us hl => match us, hl with | [_], _ => rfl) (by rintro ds c ⟨d, rfl, _⟩; rfl) ?_
  rintro ds c ⟨d, rfl, h, rfl⟩ f cdv A outer s0 H E hr
  exact py_call (HnearestY.mono (k := 5) (by decide)) hr (ab_cons pb_n (ab_cons (pb_v 0) (ab_cons pb_N ab_nil))) ⟨_, _, _, rfl, .inr (.inl ⟨⟨_, rfl, by decide, by decide, h⟩, rfl⟩)⟩
theorem y_Ls2 (HfarY : HasY P w K mg base 4 "far" [] (Y_far cR cS)) : LamY P w K mg base 6 Ls2 (fun ds c => ∃ d, ds = [d] ∧ BdS 6 d ∧ c = cS) := by
  refine lamY_mk (N := ["_law_it"]) (ps := ["_law_it"]) ⟨rfl, rfl, rfl, by decide +kernel, rfl, by decide +kernel, by decide +kernel⟩ rfl (fun pm cv ctv us hl => match us, hl with | [_], _ => rfl) (by rintro ds c ⟨d, rfl, _⟩; rfl) ?_
  rintro ds c ⟨d, rfl, h, rfl⟩ f cdv A outer s0 H E hr
  exact py_call (HfarY.mono (k := 5) (by decide)) hr (ab_cons pb_n (ab_cons (pb_v 0) ab_nil)) ⟨_, _, rfl, .inr ⟨⟨_, rfl, by decide, by decide, h⟩, rfl⟩⟩
theorem y_Ls3 (Hhow_manyY : HasY P w K mg base 5 "how_many" [] (Y_how_many cR cS cP)) : LamY P w K mg base 6 Ls3 (fun ds c => ∃ d, ds = [d] ∧ BdS 6 d ∧ c = cS) := by
  refine lamY_mk (N := ["_law_one"]) (ps := ["_law_one"]) ⟨rfl, rfl, rfl, by decide +kernel, rfl, by decide +kernel, by decide +kernel⟩ rfl (fun pm cv ctv us hl => match us, hl with | [_], _ => rfl) (by rintro ds c ⟨d, rfl, _⟩; rfl) ?_
  rintro ds c ⟨d, rfl, h, rfl⟩ f cdv A outer s0 H E hr
  exact py_call Hhow_manyY hr (ab_cons pb_n (ab_cons (pb_v 0) (ab_cons pb_N (ab_cons pb_N (ab_cons pb_N ab_nil))))) ⟨_, _, _, _, _, rfl, .inr (.inl ⟨⟨_, rfl, by decide, by decide, h⟩, rfl⟩)⟩
theorem y_Ls4 (Hway_byY : HasY P w K mg base 5 "way_by" [] (Y_way_by cR cS cP)) : LamY P w K mg base 6 Ls4 (fun ds c => ∃ d, ds = [d] ∧ BdS 6 d ∧ c = cS) := by
  refine lamY_mk (N := ["_law_two"]) (ps := ["_law_two"]) ⟨rfl, rfl, rfl, by decide +kernel, rfl, by decide +kernel, by decide +kernel⟩ rfl (fun pm cv ctv us hl => match us, hl with | [_], _ => rfl) (by rintro ds c ⟨d, rfl, _⟩; rfl) ?_
  rintro ds c ⟨d, rfl, h, rfl⟩ f cdv A outer s0 H E hr
  exact py_call Hway_byY hr (ab_cons pb_n (ab_cons (pb_v 0) (ab_cons pb_n (ab_cons pb_n (ab_cons pb_n (ab_cons pb_n ab_nil)))))) ⟨_, _, _, _, _, _, rfl, .inr (.inl ⟨⟨_, rfl, by decide, by decide, h⟩, rfl⟩)⟩
theorem y_Ls5 (Hnumber_ofY : HasY P w K mg base 4 "number_of" [] (Y_number_of cR cS)) : LamY P w K mg base 6 Ls5 (fun ds c => ∃ d, ds = [d] ∧ BdS 6 d ∧ c = cS) := by
  refine lamY_mk (N := ["_law_one"]) (ps := ["_law_one"]) ⟨rfl, rfl, rfl, by decide +kernel, rfl, by decide +kernel, by decide +kernel⟩ rfl (fun pm cv ctv us hl => match us, hl with | [_], _ => rfl) (by rintro ds c ⟨d, rfl, _⟩; rfl) ?_
  rintro ds c ⟨d, rfl, h, rfl⟩ f cdv A outer s0 H E hr
  exact py_call (Hnumber_ofY.mono (k := 5) (by decide)) hr (ab_cons pb_n (ab_cons (pb_v 0) (ab_cons pb_N ab_nil))) ⟨_, _, _, rfl, .inr ⟨⟨_, rfl, by decide, by decide, h⟩, rfl⟩⟩
theorem y_Ls6 (HafterY : HasY P w K mg base 4 "after" [] (Y_after cR cS cP)) : LamY P w K mg base 6 Ls6 (fun ds c => ∃ d, ds = [d] ∧ BdS 6 d ∧ c = cS) := by
  refine lamY_mk (N := ["_law_two"]) (ps := ["_law_two"]) ⟨rfl, rfl, rfl, by decide +kernel, rfl, by decide +kernel, by decide +kernel⟩ rfl (fun pm cv ctv us hl => match us, hl with | [_], _ => rfl) (by rintro ds c ⟨d, rfl, _⟩; rfl) ?_
  rintro ds c ⟨d, rfl, h, rfl⟩ f cdv A outer s0 H E hr
  exact py_call (HafterY.mono (k := 5) (by decide)) hr (ab_cons pb_n (ab_cons (pb_v 0) (ab_cons pb_N (ab_cons pb_N ab_nil)))) ⟨_, _, _, _, rfl, .inr (.inl ⟨⟨_, rfl, by decide, by decide, h⟩, rfl⟩)⟩
theorem y_Ls7 (HeveryY : HasY P w K mg base 4 "every" [] (Y_every cR cS)) : LamY P w K mg base 6 Ls7 (fun ds c => ∃ d, ds = [d] ∧ BdS 6 d ∧ c = cS) := by
  refine lamY_mk (N := ["_law_one"]) (ps := ["_law_one"]) ⟨rfl, rfl, rfl, by decide +kernel, rfl, by decide +kernel, by decide +kernel⟩ rfl (fun pm cv ctv us hl => match us, hl with | [_], _ => rfl) (by rintro ds c ⟨d, rfl, _⟩; rfl) ?_
  rintro ds c ⟨d, rfl, h, rfl⟩ f cdv A outer s0 H E hr
  exact py_call (HeveryY.mono (k := 5) (by decide)) hr (ab_cons pb_n (ab_cons (pb_v 0) ab_nil)) ⟨_, _, rfl, .inr ⟨⟨_, rfl, by decide, by decide, h⟩, rfl⟩⟩
theorem y_Ls8 (HaddedY : HasY P w K mg base 4 "added" [] (Y_added cR cS)) : LamY P w K mg base 6 Ls8 (fun ds c => ∃ d, ds = [d] ∧ BdS (6 - 1) d ∧ c = cS) := by
  refine lamY_mk (N := ["_law_two"]) (ps := ["_law_two"]) ⟨rfl, rfl, rfl, by decide +kernel, rfl, by decide +kernel, by decide +kernel⟩ rfl (fun pm cv ctv us hl => match us, hl with | [_], _ => rfl) (by rintro ds c ⟨d, rfl, _⟩; rfl) ?_
  rintro ds c ⟨d, rfl, h, rfl⟩ f cdv A outer s0 H E hr
  exact py_call (HaddedY.mono (k := 5) (by decide)) hr (ab_cons pb_n (ab_cons (pb_v 0) ab_nil)) ⟨_, _, rfl, .inr ⟨⟨_, rfl, by decide, by decide, h⟩, rfl⟩⟩
theorem y_Ls9 (HtwosY : HasY P w K mg base 4 "twos" [] (Y_twos cR cS)) : LamY P w K mg base 6 Ls9 (fun ds c => ∃ d, ds = [d] ∧ BdS 6 d ∧ c = cS) := by
  refine lamY_mk (N := ["_law_it"]) (ps := ["_law_it"]) ⟨rfl, rfl, rfl, by decide +kernel, rfl, by decide +kernel, by decide +kernel⟩ rfl (fun pm cv ctv us hl => match us, hl with | [_], _ => rfl) (by rintro ds c ⟨d, rfl, _⟩; rfl) ?_
  rintro ds c ⟨d, rfl, h, rfl⟩ f cdv A outer s0 H E hr
  exact py_call (HtwosY.mono (k := 5) (by decide)) hr (ab_cons pb_n (ab_cons (pb_v 0) ab_nil)) ⟨_, _, rfl, .inr ⟨⟨_, rfl, by decide, by decide, h⟩, rfl⟩⟩
theorem y_Ls10 (HjudgedY : HasY P w K mg base 4 "judged" [] (Y_judged cR cS cP)) : LamY P w K mg base 6 Ls10 (fun ds c => ∃ d, ds = [d] ∧ BdS 6 d ∧ c = cS) := by
  refine lamY_mk (N := ["_law_one"]) (ps := ["_law_one"]) ⟨rfl, rfl, rfl, by decide +kernel, rfl, by decide +kernel, by decide +kernel⟩ rfl (fun pm cv ctv us hl => match us, hl with | [_], _ => rfl) (by rintro ds c ⟨d, rfl, _⟩; rfl) ?_
  rintro ds c ⟨d, rfl, h, rfl⟩ f cdv A outer s0 H E hr
  exact py_call (HjudgedY.mono (k := 5) (by decide)) hr (ab_cons pb_n (ab_cons (pb_v 0) (ab_cons pb_N (ab_cons pb_N ab_nil)))) ⟨_, _, _, _, rfl, .inr (.inl ⟨⟨_, rfl, by decide, by decide, h⟩, rfl⟩)⟩
theorem y_Ls11 (HWalkerY : HasNY P w K mg base 4 "Walker" CW (Y_Walker cR cS cP)) : LamY P w K mg base 6 Ls11 (fun ds c => ∃ d, ds = [d] ∧ BdS 6 d ∧ c = cS) := by
  refine lamY_mk (N := ["_law_two"]) (ps := ["_law_two"]) ⟨rfl, rfl, rfl, by decide +kernel, rfl, by decide +kernel, by decide +kernel⟩ rfl (fun pm cv ctv us hl => match us, hl with | [_], _ => rfl) (by rintro ds c ⟨d, rfl, _⟩; rfl) ?_
  rintro ds c ⟨d, rfl, h, rfl⟩ f cdv A outer s0 H E hr
  exact py_make HWalkerY hr (ab_cons pb_n (ab_cons (pb_v 0) (ab_cons pb_N ab_nil))) fun v => ⟨v, _, _, _, rfl, .inr (.inl ⟨⟨_, rfl, by decide, by decide, h⟩, rfl⟩)⟩
theorem y_Ls12 (HaddedY : HasY P w K mg base 4 "added" [] (Y_added cR cS)) : LamY P w K mg base 6 Ls12 (fun ds c => ∃ d, ds = [d] ∧ BdS (6 - 1) d ∧ c = cS) := by
  refine lamY_mk (N := ["_law_one"]) (ps := ["_law_one"]) ⟨rfl, rfl, rfl, by decide +kernel, rfl, by decide +kernel, by decide +kernel⟩ rfl (fun pm cv ctv us hl => match us, hl with | [_], _ => rfl) (by rintro ds c ⟨d, rfl, _⟩; rfl) ?_
  rintro ds c ⟨d, rfl, h, rfl⟩ f cdv A outer s0 H E hr
  exact py_call (HaddedY.mono (k := 5) (by decide)) hr (ab_cons pb_n (ab_cons (pb_v 0) ab_nil)) ⟨_, _, rfl, .inr ⟨⟨_, rfl, by decide, by decide, h⟩, rfl⟩⟩
theorem y_Lp0 (HtoldY : HasY P w K mg base 4 "told" [] (Y_told cR cS cP)) : LamY P w K mg base 6 Lp0 (fun ds c => ∃ d, ds = [d] ∧ BdI 0 (5 - 1) d ∧ c = cP) := by
  refine lamY_mk (N := ["_law_one"]) (ps := ["_law_one"]) ⟨rfl, rfl, rfl, by decide +kernel, rfl, by decide +kernel, by decide +kernel⟩ rfl (fun pm cv ctv us hl => match us, hl with | [_], _ => rfl) (by rintro ds c ⟨d, rfl, _⟩; rfl) ?_
  rintro ds c ⟨d, rfl, h, rfl⟩ f cdv A outer s0 H E hr
  exact py_call (HtoldY.mono (k := 5) (by decide)) hr (ab_cons pb_n (ab_cons (pb_o (po_lst (aq_cons pp_n aq_nil))) (ab_cons (pb_v 0) (ab_cons pb_N ab_nil)))) ⟨_, _, _, _, rfl, .inr (.inr (.inl ⟨⟨_, [1], rfl, rfl, rs51, h⟩, rfl⟩))⟩
theorem y_Lp1 (HtoldY : HasY P w K mg base 4 "told" [] (Y_told cR cS cP)) : LamY P w K mg base 6 Lp1 (fun ds c => ∃ d, ds = [d] ∧ BdI 0 (5 - 1) d ∧ c = cP) := by
  refine lamY_mk (N := ["_law_two"]) (ps := ["_law_two"]) ⟨rfl, rfl, rfl, by decide +kernel, rfl, by decide +kernel, by decide +kernel⟩ rfl (fun pm cv ctv us hl => match us, hl with | [_], _ => rfl) (by rintro ds c ⟨d, rfl, _⟩; rfl) ?_
  rintro ds c ⟨d, rfl, h, rfl⟩ f cdv A outer s0 H E hr
  exact py_call (HtoldY.mono (k := 5) (by decide)) hr (ab_cons pb_n (ab_cons (pb_o (po_lst (aq_cons pp_n aq_nil))) (ab_cons pb_n (ab_cons (pb_v 0) ab_nil)))) ⟨_, _, _, _, rfl, .inr (.inr (.inr ⟨⟨_, [1], _, rfl, rfl, rs51, rfl, by decide, by decide, h⟩, rfl⟩))⟩
theorem y_Lp2 (HnearestY : HasY P w K mg base 4 "nearest" [] (Y_nearest cR cS cP)) : LamY P w K mg base 6 Lp2 (fun ds c => ∃ d, ds = [d] ∧ BdI 0 (5 - 1) d ∧ c = cP) := by
  refine lamY_mk (N := ["_law_it"]) (ps := ["_law_it"]) ⟨rfl, rfl, rfl, by decide +kernel, rfl, by decide +kernel, by decide +kernel⟩ rfl (fun pm cv ctv us hl => match us, hl with | [_], _ => rfl) (by rintro ds c ⟨d, rfl, _⟩; rfl) ?_
  rintro ds c ⟨d, rfl, h, rfl⟩ f cdv A outer s0 H E hr
  exact py_call (HnearestY.mono (k := 5) (by decide)) hr (ab_cons pb_n (ab_cons (pb_o (po_lst (aq_cons pp_n aq_nil))) (ab_cons (pb_v 0) ab_nil))) ⟨_, _, _, rfl, .inr (.inr ⟨⟨_, [1], rfl, rfl, rs51, h⟩, rfl⟩)⟩
theorem y_Lp3 (Hhow_manyY : HasY P w K mg base 5 "how_many" [] (Y_how_many cR cS cP)) : LamY P w K mg base 6 Lp3 (fun ds c => ∃ d, ds = [d] ∧ BdI 0 (5 - 1) d ∧ c = cP) := by
  refine lamY_mk (N := ["_law_one"]) (ps := ["_law_one"]) ⟨rfl, rfl, rfl, by decide +kernel, rfl, by decide +kernel, by decide +kernel⟩ rfl (fun pm cv ctv us hl => match us, hl with | [_], _ => rfl) (by rintro ds c ⟨d, rfl, _⟩; rfl) ?_
  rintro ds c ⟨d, rfl, h, rfl⟩ f cdv A outer s0 H E hr
  exact py_call Hhow_manyY hr (ab_cons pb_n (ab_cons (pb_o (po_lst (aq_cons pp_n aq_nil))) (ab_cons (pb_v 0) (ab_cons pb_n (ab_cons pb_N ab_nil))))) ⟨_, _, _, _, _, rfl, .inr (.inr (.inl ⟨⟨_, [1], rfl, rfl, rs51, h⟩, rfl⟩))⟩
theorem y_Lp4 (Hhow_manyY : HasY P w K mg base 5 "how_many" [] (Y_how_many cR cS cP)) : LamY P w K mg base 6 Lp4 (fun ds c => ∃ d, ds = [d] ∧ BdI 0 (5 - 1) d ∧ c = cP) := by
  refine lamY_mk (N := ["_law_two"]) (ps := ["_law_two"]) ⟨rfl, rfl, rfl, by decide +kernel, rfl, by decide +kernel, by decide +kernel⟩ rfl (fun pm cv ctv us hl => match us, hl with | [_], _ => rfl) (by rintro ds c ⟨d, rfl, _⟩; rfl) ?_
  rintro ds c ⟨d, rfl, h, rfl⟩ f cdv A outer s0 H E hr
  exact py_call Hhow_manyY hr (ab_cons pb_n (ab_cons (pb_o (po_lst (aq_cons pp_n aq_nil))) (ab_cons pb_n (ab_cons (pb_v 0) (ab_cons pb_N ab_nil))))) ⟨_, _, _, _, _, rfl, .inr (.inr (.inr ⟨⟨_, [1], _, rfl, rfl, rs51, rfl, by decide, by decide, h⟩, rfl⟩))⟩
theorem y_Lp5 (Hway_byY : HasY P w K mg base 5 "way_by" [] (Y_way_by cR cS cP)) : LamY P w K mg base 6 Lp5 (fun ds c => ∃ d, ds = [d] ∧ BdI 0 (5 - 1) d ∧ c = cP) := by
  refine lamY_mk (N := ["_law_one"]) (ps := ["_law_one"]) ⟨rfl, rfl, rfl, by decide +kernel, rfl, by decide +kernel, by decide +kernel⟩ rfl (fun pm cv ctv us hl => match us, hl with | [_], _ => rfl) (by rintro ds c ⟨d, rfl, _⟩; rfl) ?_
  rintro ds c ⟨d, rfl, h, rfl⟩ f cdv A outer s0 H E hr
  exact py_call Hway_byY hr (ab_cons pb_n (ab_cons (pb_o (po_lst (aq_cons pp_n aq_nil))) (ab_cons (pb_v 0) (ab_cons pb_n (ab_cons pb_n (ab_cons pb_n ab_nil)))))) ⟨_, _, _, _, _, _, rfl, .inr (.inr (.inl ⟨⟨_, [1], rfl, rfl, rs51, h⟩, rfl⟩))⟩
theorem y_Lp6 (Hway_byY : HasY P w K mg base 5 "way_by" [] (Y_way_by cR cS cP)) : LamY P w K mg base 6 Lp6 (fun ds c => ∃ d, ds = [d] ∧ BdI 0 (5 - 1) d ∧ c = cP) := by
  refine lamY_mk (N := ["_law_two"]) (ps := ["_law_two"]) ⟨rfl, rfl, rfl, by decide +kernel, rfl, by decide +kernel, by decide +kernel⟩ rfl (fun pm cv ctv us hl => match us, hl with | [_], _ => rfl) (by rintro ds c ⟨d, rfl, _⟩; rfl) ?_
  rintro ds c ⟨d, rfl, h, rfl⟩ f cdv A outer s0 H E hr
  exact py_call Hway_byY hr (ab_cons pb_n (ab_cons (pb_o (po_lst (aq_cons pp_n aq_nil))) (ab_cons pb_n (ab_cons (pb_v 0) (ab_cons pb_N (ab_cons pb_N ab_nil)))))) ⟨_, _, _, _, _, _, rfl, .inr (.inr (.inr ⟨⟨_, [1], _, rfl, rfl, rs51, rfl, by decide, by decide, h⟩, rfl⟩))⟩
theorem y_Lp7 (HafterY : HasY P w K mg base 4 "after" [] (Y_after cR cS cP)) : LamY P w K mg base 6 Lp7 (fun ds c => ∃ d, ds = [d] ∧ BdI 0 (5 - 1) d ∧ c = cP) := by
  refine lamY_mk (N := ["_law_one"]) (ps := ["_law_one"]) ⟨rfl, rfl, rfl, by decide +kernel, rfl, by decide +kernel, by decide +kernel⟩ rfl (fun pm cv ctv us hl => match us, hl with | [_], _ => rfl) (by rintro ds c ⟨d, rfl, _⟩; rfl) ?_
  rintro ds c ⟨d, rfl, h, rfl⟩ f cdv A outer s0 H E hr
  exact py_call (HafterY.mono (k := 5) (by decide)) hr (ab_cons pb_n (ab_cons (pb_o (po_lst (aq_cons pp_n aq_nil))) (ab_cons (pb_v 0) (ab_cons pb_N ab_nil)))) ⟨_, _, _, _, rfl, .inr (.inr ⟨⟨_, [1], rfl, rfl, rs51, h⟩, rfl⟩)⟩
theorem y_Lp8 (HjudgedY : HasY P w K mg base 4 "judged" [] (Y_judged cR cS cP)) : LamY P w K mg base 6 Lp8 (fun ds c => ∃ d, ds = [d] ∧ BdI 0 (5 - 1) d ∧ c = cP) := by
  refine lamY_mk (N := ["_law_two"]) (ps := ["_law_two"]) ⟨rfl, rfl, rfl, by decide +kernel, rfl, by decide +kernel, by decide +kernel⟩ rfl (fun pm cv ctv us hl => match us, hl with | [_], _ => rfl) (by rintro ds c ⟨d, rfl, _⟩; rfl) ?_
  rintro ds c ⟨d, rfl, h, rfl⟩ f cdv A outer s0 H E hr
  exact py_call (HjudgedY.mono (k := 5) (by decide)) hr (ab_cons pb_n (ab_cons (pb_o (po_lst (aq_cons pp_n aq_nil))) (ab_cons (pb_v 0) (ab_cons pb_N ab_nil)))) ⟨_, _, _, _, rfl, .inr (.inr ⟨⟨_, [1], rfl, rfl, rs51, h⟩, rfl⟩)⟩
theorem y_Lp9 (HWalkerY : HasNY P w K mg base 4 "Walker" CW (Y_Walker cR cS cP)) : LamY P w K mg base 6 Lp9 (fun ds c => ∃ d, ds = [d] ∧ BdI 0 (5 - 1) d ∧ c = cP) := by
  refine lamY_mk (N := ["_law_one"]) (ps := ["_law_one"]) ⟨rfl, rfl, rfl, by decide +kernel, rfl, by decide +kernel, by decide +kernel⟩ rfl (fun pm cv ctv us hl => match us, hl with | [_], _ => rfl) (by rintro ds c ⟨d, rfl, _⟩; rfl) ?_
  rintro ds c ⟨d, rfl, h, rfl⟩ f cdv A outer s0 H E hr
  exact py_make HWalkerY hr (ab_cons pb_n (ab_cons (pb_o (po_lst (aq_cons pp_n aq_nil))) (ab_cons (pb_v 0) ab_nil))) fun v => ⟨v, _, _, _, rfl, .inr (.inr ⟨⟨_, [1], rfl, rfl, rs51, h⟩, rfl⟩)⟩
theorem y_Lp10 (HtoldY : HasY P w K mg base 4 "told" [] (Y_told cR cS cP)) : LamY P w K mg base 6 Lp10 (fun ds c => ∃ d, ds = [d] ∧ BdI 0 (5 - 1) d ∧ c = cP) := by
  refine lamY_mk (N := ["_law_one"]) (ps := ["_law_one"]) ⟨rfl, rfl, rfl, by decide +kernel, rfl, by decide +kernel, by decide +kernel⟩ rfl (fun pm cv ctv us hl => match us, hl with | [_], _ => rfl) (by rintro ds c ⟨d, rfl, _⟩; rfl) ?_
  rintro ds c ⟨d, rfl, h, rfl⟩ f cdv A outer s0 H E hr
  exact py_call (HtoldY.mono (k := 5) (by decide)) hr (ab_cons pb_n (ab_cons (pb_o (po_lst (aq_cons pp_n aq_nil))) (ab_cons (pb_v 0) (ab_cons pb_n ab_nil)))) ⟨_, _, _, _, rfl, .inr (.inr (.inl ⟨⟨_, [1], rfl, rfl, rs51, h⟩, rfl⟩))⟩
theorem y_Lp11 (Hhow_manyY : HasY P w K mg base 5 "how_many" [] (Y_how_many cR cS cP)) : LamY P w K mg base 6 Lp11 (fun ds c => ∃ d, ds = [d] ∧ BdI 0 (5 - 1) d ∧ c = cP) := by
  refine lamY_mk (N := ["_law_two"]) (ps := ["_law_two"]) ⟨rfl, rfl, rfl, by decide +kernel, rfl, by decide +kernel, by decide +kernel⟩ rfl (fun pm cv ctv us hl => match us, hl with | [_], _ => rfl) (by rintro ds c ⟨d, rfl, _⟩; rfl) ?_
  rintro ds c ⟨d, rfl, h, rfl⟩ f cdv A outer s0 H E hr
  exact py_call Hhow_manyY hr (ab_cons pb_n (ab_cons (pb_o (po_lst (aq_cons pp_n aq_nil))) (ab_cons (pb_v 0) (ab_cons pb_n (ab_cons pb_n ab_nil))))) ⟨_, _, _, _, _, rfl, .inr (.inr (.inl ⟨⟨_, [1], rfl, rfl, rs51, h⟩, rfl⟩))⟩
theorem y_Lp12 (Hway_byY : HasY P w K mg base 5 "way_by" [] (Y_way_by cR cS cP)) : LamY P w K mg base 6 Lp12 (fun ds c => ∃ d, ds = [d] ∧ BdI 0 (5 - 1) d ∧ c = cP) := by
  refine lamY_mk (N := ["_law_one"]) (ps := ["_law_one"]) ⟨rfl, rfl, rfl, by decide +kernel, rfl, by decide +kernel, by decide +kernel⟩ rfl (fun pm cv ctv us hl => match us, hl with | [_], _ => rfl) (by rintro ds c ⟨d, rfl, _⟩; rfl) ?_
  rintro ds c ⟨d, rfl, h, rfl⟩ f cdv A outer s0 H E hr
  exact py_call Hway_byY hr (ab_cons pb_n (ab_cons (pb_o (po_lst (aq_cons pp_n aq_nil))) (ab_cons (pb_v 0) (ab_cons pb_n (ab_cons pb_n (ab_cons pb_n ab_nil)))))) ⟨_, _, _, _, _, _, rfl, .inr (.inr (.inl ⟨⟨_, [1], rfl, rfl, rs51, h⟩, rfl⟩))⟩
end

/-! ### k14: the makers of lambdas, the law -/
theorem sct__law_steps_right : FnScope ["_law_great", "_law_asks", "0"] ["_law_great"] (defScope s__law_steps_right) := ⟨rfl, rfl, rfl, by decide +kernel, rfl, by decide +kernel, by decide +kernel⟩
theorem sct__law_places_right : FnScope ["_law_great", "_law_asks", "0"] ["_law_great"] (defScope s__law_places_right) := ⟨rfl, rfl, rfl, by decide +kernel, rfl, by decide +kernel, by decide +kernel⟩
theorem sct_law : FnScope ["_law_script", "_law_cell", "_law_great", "_law_asks", "0", "1", "2"] ["_law_script"] (defScope s_law) := ⟨rfl, rfl, rfl, by decide +kernel, rfl, by decide +kernel, by decide +kernel⟩
def C_great : Ct := fun ds s => ∃ g, ds = [.int g] ∧ 0 ≤ g ∧ s = .d (.bl true)
section
variable {P : Program} {w : World} {K : PySem.W.Frag} {mg : Str → Option Value} {base : Heap} {cR cS cP CW : Addr}
theorem h__law_steps_right {cd P0 : Addr} (B : Bi mg) (T : DfC K mg "_law_steps_right" s__law_steps_right ["_law_great"] cd) (TB : LamX.TabB base mg cd P0) (H_law_all : Has P w K mg base 8 "_law_all" [] (C__law_all P w K mg base 6 (wh cR cS cP))) (H_law_no_steps : Has P w K mg base 2 "_law_no_steps" [] C__law_no_steps) (HtoldY : HasY P w K mg base 4 "told" [] (Y_told cR cS cP)) (HnearestY : HasY P w K mg base 4 "nearest" [] (Y_nearest cR cS cP)) (HfarY : HasY P w K mg base 4 "far" [] (Y_far cR cS)) (Hhow_manyY : HasY P w K mg base 5 "how_many" [] (Y_how_many cR cS cP)) (Hway_byY : HasY P w K mg base 5 "way_by" [] (Y_way_by cR cS cP)) (Hnumber_ofY : HasY P w K mg base 4 "number_of" [] (Y_number_of cR cS)) (HafterY : HasY P w K mg base 4 "after" [] (Y_after cR cS cP)) (HeveryY : HasY P w K mg base 4 "every" [] (Y_every cR cS)) (HaddedY : HasY P w K mg base 4 "added" [] (Y_added cR cS)) (HtwosY : HasY P w K mg base 4 "twos" [] (Y_twos cR cS)) (HjudgedY : HasY P w K mg base 4 "judged" [] (Y_judged cR cS cP)) (HWalkerY : HasNY P w K mg base 4 "Walker" CW (Y_Walker cR cS cP)) : HasTb P w K mg base 9 "_law_steps_right" P0 q_s C_great := by
  refine has_defTb T sct__law_steps_right ?_ (by decide) ?_
  · rintro ds s ⟨_, rfl, _⟩; rfl
  rintro ds d ⟨g, rfl, g0, e⟩ f A outer s0 H E hr
  cases e
  have nd := sct__law_steps_right.nd
  have bad : ∀ d, d ∈ noD g hugeM → BdS 6 d := noD_bs g0 huge_pos (by decide)
  have bad5 : ∀ d, d ∈ noD g hugeM → BdS (6 - 1) d := noD_bs g0 huge_pos (by decide)
  have six5 : ∀ d, d ∈ [D.lst [.int 1, .int 2, .int 3, .int 4, .int 5, .int 6]] → BdS (6 - 1) d := fun d hd => by rw [List.mem_singleton.mp hd]; exact bs_len (kn_i (kn_i (kn_i (kn_i (kn_i (kn_i kn_nil)))))) (by decide)
  have c1 := ct__law_no_steps (g := g)
  have c2 := noD_len g hugeM
  have a1 : C__law_all P w K mg base 6 (wh cR cS cP) [.lst [.fn Ls12], .lst [.lst [.int 1, .int 2, .int 3, .int 4, .int 5, .int 6]], .int 1] (.d (.bl true)) := ⟨_, _, _, rfl, (by rw [sizeLine_eq]; exact Nat.le_of_ble_eq_true rfl), (List.forall_mem_cons.2 ⟨⟨_, _, _, rfl, y_Ls12 HaddedY, (.inr (.inl ⟨rfl, rfl⟩)), fun d hd => ⟨d, rfl, six5 d hd, rfl⟩⟩, (fun _ h => by cases h)⟩), rfl⟩
  have a2 : C__law_all P w K mg base 6 (wh cR cS cP) [.lst [.fn Ls0, .fn Ls1, .fn Ls2, .fn Ls3, .fn Ls4, .fn Ls5, .fn Ls6, .fn Ls7, .fn Ls8, .fn Ls9, .fn Ls10, .fn Ls11], .lst (noD g hugeM), .int 1] (.d (.bl true)) := ⟨_, _, _, rfl, c2, (List.forall_mem_cons.2 ⟨⟨_, _, _, rfl, y_Ls0 HtoldY, (.inr (.inl ⟨rfl, rfl⟩)), fun d hd => ⟨d, rfl, bad d hd, rfl⟩⟩, (List.forall_mem_cons.2 ⟨⟨_, _, _, rfl, y_Ls1 HnearestY, (.inr (.inl ⟨rfl, rfl⟩)), fun d hd => ⟨d, rfl, bad d hd, rfl⟩⟩, (List.forall_mem_cons.2 ⟨⟨_, _, _, rfl, y_Ls2 HfarY, (.inr (.inl ⟨rfl, rfl⟩)), fun d hd => ⟨d, rfl, bad d hd, rfl⟩⟩, (List.forall_mem_cons.2 ⟨⟨_, _, _, rfl, y_Ls3 Hhow_manyY, (.inr (.inl ⟨rfl, rfl⟩)), fun d hd => ⟨d, rfl, bad d hd, rfl⟩⟩, (List.forall_mem_cons.2 ⟨⟨_, _, _, rfl, y_Ls4 Hway_byY, (.inr (.inl ⟨rfl, rfl⟩)), fun d hd => ⟨d, rfl, bad d hd, rfl⟩⟩, (List.forall_mem_cons.2 ⟨⟨_, _, _, rfl, y_Ls5 Hnumber_ofY, (.inr (.inl ⟨rfl, rfl⟩)), fun d hd => ⟨d, rfl, bad d hd, rfl⟩⟩, (List.forall_mem_cons.2 ⟨⟨_, _, _, rfl, y_Ls6 HafterY, (.inr (.inl ⟨rfl, rfl⟩)), fun d hd => ⟨d, rfl, bad d hd, rfl⟩⟩, (List.forall_mem_cons.2 ⟨⟨_, _, _, rfl, y_Ls7 HeveryY, (.inr (.inl ⟨rfl, rfl⟩)), fun d hd => ⟨d, rfl, bad d hd, rfl⟩⟩, (List.forall_mem_cons.2 ⟨⟨_, _, _, rfl, y_Ls8 HaddedY, (.inr (.inl ⟨rfl, rfl⟩)), fun d hd => ⟨d, rfl, bad5 d hd, rfl⟩⟩, (List.forall_mem_cons.2 ⟨⟨_, _, _, rfl, y_Ls9 HtwosY, (.inr (.inl ⟨rfl, rfl⟩)), fun d hd => ⟨d, rfl, bad d hd, rfl⟩⟩, (List.forall_mem_cons.2 ⟨⟨_, _, _, rfl, y_Ls10 HjudgedY, (.inr (.inl ⟨rfl, rfl⟩)), fun d hd => ⟨d, rfl, bad d hd, rfl⟩⟩, (List.forall_mem_cons.2 ⟨⟨_, _, _, rfl, y_Ls11 HWalkerY, (.inr (.inl ⟨rfl, rfl⟩)), fun d hd => ⟨d, rfl, bad d hd, rfl⟩⟩, (fun _ h => by cases h)⟩)⟩)⟩)⟩)⟩)⟩)⟩)⟩)⟩)⟩)⟩)⟩), rfl⟩
  clear bad bad5 six5 c2
  generalize noD g hugeM = no at c1 a2
  refine hs_asgLO 1 nd (plo_lst (ac_cons (pl_lam0 2 Ls0 TB) (ac_cons (pl_lam0 2 Ls1 TB) (ac_cons (pl_lam0 2 Ls2 TB) ac_nil)))) ?_
  refine hs_asgLO 1 nd (plo_is (plo_catV (xs := [.fn Ls0, .fn Ls1, .fn Ls2]) (ys := [.fn Ls3, .fn Ls4]) 1 (pl_lst (ac_cons (pl_lam0 2 Ls3 TB) (ac_cons (pl_lam0 2 Ls4 TB) ac_nil))) (by rw [sizeLine_eq]; exact Nat.le_of_ble_eq_true rfl)) (ys := [.fn Ls0, .fn Ls1, .fn Ls2, .fn Ls3, .fn Ls4]) rfl) ?_
  refine hs_asgLO 1 nd (plo_is (plo_catV (xs := [.fn Ls0, .fn Ls1, .fn Ls2, .fn Ls3, .fn Ls4]) (ys := [.fn Ls5, .fn Ls6]) 1 (pl_lst (ac_cons (pl_lam0 2 Ls5 TB) (ac_cons (pl_lam0 2 Ls6 TB) ac_nil))) (by rw [sizeLine_eq]; exact Nat.le_of_ble_eq_true rfl)) (ys := [.fn Ls0, .fn Ls1, .fn Ls2, .fn Ls3, .fn Ls4, .fn Ls5, .fn Ls6]) rfl) ?_
  refine hs_asgLO 1 nd (plo_is (plo_catV (xs := [.fn Ls0, .fn Ls1, .fn Ls2, .fn Ls3, .fn Ls4, .fn Ls5, .fn Ls6]) (ys := [.fn Ls7, .fn Ls8, .fn Ls9]) 1 (pl_lst (ac_cons (pl_lam0 2 Ls7 TB) (ac_cons (pl_lam0 2 Ls8 TB) (ac_cons (pl_lam0 2 Ls9 TB) ac_nil)))) (by rw [sizeLine_eq]; exact Nat.le_of_ble_eq_true rfl)) (ys := [.fn Ls0, .fn Ls1, .fn Ls2, .fn Ls3, .fn Ls4, .fn Ls5, .fn Ls6, .fn Ls7, .fn Ls8, .fn Ls9]) rfl) ?_
  refine hs_asgLO 1 nd (plo_is (plo_catV (xs := [.fn Ls0, .fn Ls1, .fn Ls2, .fn Ls3, .fn Ls4, .fn Ls5, .fn Ls6, .fn Ls7, .fn Ls8, .fn Ls9]) (ys := [.fn Ls10, .fn Ls11]) 1 (pl_lst (ac_cons (pl_lam0 2 Ls10 TB) (ac_cons (pl_lam0 2 Ls11 TB) ac_nil))) (by rw [sizeLine_eq]; exact Nat.le_of_ble_eq_true rfl)) (ys := [.fn Ls0, .fn Ls1, .fn Ls2, .fn Ls3, .fn Ls4, .fn Ls5, .fn Ls6, .fn Ls7, .fn Ls8, .fn Ls9, .fn Ls10, .fn Ls11]) rfl) ?_
  refine hs_noL (tl_is (tl_not (tl_v (pl_call H_law_all hr (ac_cons (pl_lst (ac_cons (pl_lam0 2 Ls12 TB) ac_nil)) (ac_cons (pl_p (pp_o (po_lst (aq_cons (pp_o (po_lst (aq_cons pp_n (aq_cons pp_n (aq_cons pp_n (aq_cons pp_n (aq_cons pp_n (aq_cons pp_n aq_nil)))))))) aq_nil)))) (ac_cons (pl_p pp_n) ac_nil))) a1))) rfl) ?_
  refine hs_no (tq_is (tq_not (tq_v (pb_call H_law_all hr (ab_cons (pb_w 1) (ab_cons (pb (pp_call (H_law_no_steps.mono (by decide)) hr (aq_cons (pp_v 0) aq_nil) c1)) (ab_cons pb_n ab_nil))) a2))) rfl) ?_
  exact hs_ret pp_b ⟨rfl, 2, rfl⟩
theorem h__law_places_right {cd P0 : Addr} (B : Bi mg) (T : DfC K mg "_law_places_right" s__law_places_right ["_law_great"] cd) (TB : LamX.TabB base mg cd P0) (H_law_all : Has P w K mg base 8 "_law_all" [] (C__law_all P w K mg base 6 (wh cR cS cP))) (H_law_strange : Has P w K mg base 1 "_law_strange" [] C__law_strange) (HtoldY : HasY P w K mg base 4 "told" [] (Y_told cR cS cP)) (HnearestY : HasY P w K mg base 4 "nearest" [] (Y_nearest cR cS cP)) (Hhow_manyY : HasY P w K mg base 5 "how_many" [] (Y_how_many cR cS cP)) (Hway_byY : HasY P w K mg base 5 "way_by" [] (Y_way_by cR cS cP)) (HafterY : HasY P w K mg base 4 "after" [] (Y_after cR cS cP)) (HjudgedY : HasY P w K mg base 4 "judged" [] (Y_judged cR cS cP)) (HWalkerY : HasNY P w K mg base 4 "Walker" CW (Y_Walker cR cS cP)) : HasTb P w K mg base 9 "_law_places_right" P0 q_p C_great := by
  refine has_defTb T sct__law_places_right ?_ (by decide) ?_
  · rintro ds s ⟨_, rfl, _⟩; rfl
  rintro ds d ⟨g, rfl, g0, e⟩ f A outer s0 H E hr
  cases e
  have nd := sct__law_places_right.nd
  have bad : ∀ d, d ∈ strangeD g hugeM ++ [.int 5, .int (5 + g)] → BdI 0 (5 - 1) d := fun d hd => by
    rcases List.mem_append.mp hd with h | h
    · exact strange_bi g0 huge_pos (by decide) d h
    · simp only [List.mem_cons, List.not_mem_nil, or_false] at h
      rcases h with rfl | rfl
      · exact bi_int (by decide)
      · exact bi_int (by omega)
  have c1 := ct__law_strange (g := g)
  have c2 : (strangeD g hugeM).length + 2 ≤ sizeLine := (by rw [sizeLine_eq]; exact Nat.le_of_ble_eq_true rfl)
  have a2 : C__law_all P w K mg base 6 (wh cR cS cP) [.lst [.fn Lp0, .fn Lp1, .fn Lp2, .fn Lp3, .fn Lp4, .fn Lp5, .fn Lp6, .fn Lp7, .fn Lp8, .fn Lp9, .fn Lp10, .fn Lp11, .fn Lp12], .lst (strangeD g hugeM ++ [.int 5, .int (5 + g)]), .int 2] (.d (.bl true)) := ⟨_, _, _, rfl, by rw [List.length_append]; exact c2, (List.forall_mem_cons.2 ⟨⟨_, _, _, rfl, y_Lp0 HtoldY, (.inr (.inr ⟨rfl, rfl⟩)), fun d hd => ⟨d, rfl, bad d hd, rfl⟩⟩, (List.forall_mem_cons.2 ⟨⟨_, _, _, rfl, y_Lp1 HtoldY, (.inr (.inr ⟨rfl, rfl⟩)), fun d hd => ⟨d, rfl, bad d hd, rfl⟩⟩, (List.forall_mem_cons.2 ⟨⟨_, _, _, rfl, y_Lp2 HnearestY, (.inr (.inr ⟨rfl, rfl⟩)), fun d hd => ⟨d, rfl, bad d hd, rfl⟩⟩, (List.forall_mem_cons.2 ⟨⟨_, _, _, rfl, y_Lp3 Hhow_manyY, (.inr (.inr ⟨rfl, rfl⟩)), fun d hd => ⟨d, rfl, bad d hd, rfl⟩⟩, (List.forall_mem_cons.2 ⟨⟨_, _, _, rfl, y_Lp4 Hhow_manyY, (.inr (.inr ⟨rfl, rfl⟩)), fun d hd => ⟨d, rfl, bad d hd, rfl⟩⟩, (List.forall_mem_cons.2 ⟨⟨_, _, _, rfl, y_Lp5 Hway_byY, (.inr (.inr ⟨rfl, rfl⟩)), fun d hd => ⟨d, rfl, bad d hd, rfl⟩⟩, (List.forall_mem_cons.2 ⟨⟨_, _, _, rfl, y_Lp6 Hway_byY, (.inr (.inr ⟨rfl, rfl⟩)), fun d hd => ⟨d, rfl, bad d hd, rfl⟩⟩, (List.forall_mem_cons.2 ⟨⟨_, _, _, rfl, y_Lp7 HafterY, (.inr (.inr ⟨rfl, rfl⟩)), fun d hd => ⟨d, rfl, bad d hd, rfl⟩⟩, (List.forall_mem_cons.2 ⟨⟨_, _, _, rfl, y_Lp8 HjudgedY, (.inr (.inr ⟨rfl, rfl⟩)), fun d hd => ⟨d, rfl, bad d hd, rfl⟩⟩, (List.forall_mem_cons.2 ⟨⟨_, _, _, rfl, y_Lp9 HWalkerY, (.inr (.inr ⟨rfl, rfl⟩)), fun d hd => ⟨d, rfl, bad d hd, rfl⟩⟩, (List.forall_mem_cons.2 ⟨⟨_, _, _, rfl, y_Lp10 HtoldY, (.inr (.inr ⟨rfl, rfl⟩)), fun d hd => ⟨d, rfl, bad d hd, rfl⟩⟩, (List.forall_mem_cons.2 ⟨⟨_, _, _, rfl, y_Lp11 Hhow_manyY, (.inr (.inr ⟨rfl, rfl⟩)), fun d hd => ⟨d, rfl, bad d hd, rfl⟩⟩, (List.forall_mem_cons.2 ⟨⟨_, _, _, rfl, y_Lp12 Hway_byY, (.inr (.inr ⟨rfl, rfl⟩)), fun d hd => ⟨d, rfl, bad d hd, rfl⟩⟩, (fun _ h => by cases h)⟩)⟩)⟩)⟩)⟩)⟩)⟩)⟩)⟩)⟩)⟩)⟩)⟩), rfl⟩
  clear bad
  generalize strangeD g hugeM = no at c1 c2 a2
  refine hs_asgLO 1 nd (plo_lst (ac_cons (pl_lam0 2 Lp0 TB) (ac_cons (pl_lam0 2 Lp1 TB) (ac_cons (pl_lam0 2 Lp2 TB) ac_nil)))) ?_
  refine hs_asgLO 1 nd (plo_is (plo_catV (xs := [.fn Lp0, .fn Lp1, .fn Lp2]) (ys := [.fn Lp3, .fn Lp4]) 1 (pl_lst (ac_cons (pl_lam0 2 Lp3 TB) (ac_cons (pl_lam0 2 Lp4 TB) ac_nil))) (by rw [sizeLine_eq]; exact Nat.le_of_ble_eq_true rfl)) (ys := [.fn Lp0, .fn Lp1, .fn Lp2, .fn Lp3, .fn Lp4]) rfl) ?_
  refine hs_asgLO 1 nd (plo_is (plo_catV (xs := [.fn Lp0, .fn Lp1, .fn Lp2, .fn Lp3, .fn Lp4]) (ys := [.fn Lp5, .fn Lp6]) 1 (pl_lst (ac_cons (pl_lam0 2 Lp5 TB) (ac_cons (pl_lam0 2 Lp6 TB) ac_nil))) (by rw [sizeLine_eq]; exact Nat.le_of_ble_eq_true rfl)) (ys := [.fn Lp0, .fn Lp1, .fn Lp2, .fn Lp3, .fn Lp4, .fn Lp5, .fn Lp6]) rfl) ?_
  refine hs_asgLO 1 nd (plo_is (plo_catV (xs := [.fn Lp0, .fn Lp1, .fn Lp2, .fn Lp3, .fn Lp4, .fn Lp5, .fn Lp6]) (ys := [.fn Lp7, .fn Lp8]) 1 (pl_lst (ac_cons (pl_lam0 2 Lp7 TB) (ac_cons (pl_lam0 2 Lp8 TB) ac_nil))) (by rw [sizeLine_eq]; exact Nat.le_of_ble_eq_true rfl)) (ys := [.fn Lp0, .fn Lp1, .fn Lp2, .fn Lp3, .fn Lp4, .fn Lp5, .fn Lp6, .fn Lp7, .fn Lp8]) rfl) ?_
  refine hs_appL (xs := [.fn Lp0, .fn Lp1, .fn Lp2, .fn Lp3, .fn Lp4, .fn Lp5, .fn Lp6, .fn Lp7, .fn Lp8]) 1 (pl_lam0 2 Lp9 TB) (by rw [sizeLine_eq]; decide) ?_
  refine hs_asgLO 1 nd (plo_is (plo_catV (xs := [.fn Lp0, .fn Lp1, .fn Lp2, .fn Lp3, .fn Lp4, .fn Lp5, .fn Lp6, .fn Lp7, .fn Lp8, .fn Lp9]) (ys := [.fn Lp10, .fn Lp11]) 1 (pl_lst (ac_cons (pl_lam0 2 Lp10 TB) (ac_cons (pl_lam0 2 Lp11 TB) ac_nil))) (by rw [sizeLine_eq]; exact Nat.le_of_ble_eq_true rfl)) (ys := [.fn Lp0, .fn Lp1, .fn Lp2, .fn Lp3, .fn Lp4, .fn Lp5, .fn Lp6, .fn Lp7, .fn Lp8, .fn Lp9, .fn Lp10, .fn Lp11]) rfl) ?_
  refine hs_appL (xs := [.fn Lp0, .fn Lp1, .fn Lp2, .fn Lp3, .fn Lp4, .fn Lp5, .fn Lp6, .fn Lp7, .fn Lp8, .fn Lp9, .fn Lp10, .fn Lp11]) 1 (pl_lam0 2 Lp12 TB) (by rw [sizeLine_eq]; decide) ?_
  refine hs_no (tq_is (tq_not (tq_v (pb_call H_law_all hr (ab_cons (pb_w (xs := [.fn Lp0, .fn Lp1, .fn Lp2, .fn Lp3, .fn Lp4, .fn Lp5, .fn Lp6, .fn Lp7, .fn Lp8, .fn Lp9, .fn Lp10, .fn Lp11, .fn Lp12]) 1) (ab_cons (pb_o (po_cat (pp_o (po_call (H_law_strange.mono (by decide)) hr (aq_cons (pp_v 0) aq_nil) c1)) (pp_o (po_lst (aq_cons pp_n (aq_cons (pp_s (pb_add pb_n (pb_v 0))) aq_nil)))) c2)) (ab_cons pb_n ab_nil))) a2))) rfl) ?_
  exact hs_ret pp_b ⟨rfl, 2, rfl⟩
end

/-! ### sums -/
theorem sum_add {α : Type} (f g : α → Int) : ∀ l : List α, (l.map fun x => f x + g x).sum = (l.map f).sum + (l.map g).sum
  | [] => rfl
  | a :: l => by simp only [List.map_cons, List.sum_cons, sum_add f g l]; omega
theorem sum_zero {α : Type} : ∀ l : List α, (l.map fun _ => (0 : Int)).sum = 0
  | [] => rfl
  | _ :: l => by simp only [List.map_cons, List.sum_cons, sum_zero l]; omega
theorem sum_comm {α β : Type} (f : α → β → Int) (m : List β) : ∀ l : List α, (l.map fun x => (m.map fun y => f x y).sum).sum = (m.map fun y => (l.map fun x => f x y).sum).sum
  | [] => by simp only [List.map_nil, List.sum_nil]; rw [sum_zero]
  | a :: l => by
    simp only [List.map_cons, List.sum_cons, sum_comm f m l]
    rw [← sum_add]
theorem sum_mul {α : Type} (f : α → Int) (c : Int) : ∀ l : List α, (l.map fun x => f x * c).sum = (l.map f).sum * c
  | [] => by simp
  | a :: l => by simp only [List.map_cons, List.sum_cons, sum_mul f c l, Int.add_mul]
theorem sum_congr {α : Type} {f g : α → Int} {l : List α} (h : ∀ x, x ∈ l → f x = g x) : (l.map f).sum = (l.map g).sum := by rw [List.map_congr_left h]
theorem sum_nonneg {α : Type} {f : α → Int} : ∀ {l : List α}, (∀ x, x ∈ l → 0 ≤ f x) → 0 ≤ (l.map f).sum
  | [], _ => by simp
  | a :: l, h => by
    have h1 := h a (List.mem_cons_self ..)
    have h2 := sum_nonneg (l := l) fun x hx => h x (List.mem_cons_of_mem _ hx)
    simp only [List.map_cons, List.sum_cons]; omega
theorem sum_pick (g : Nat → Int) (a : Nat) : ∀ n : Nat, ((List.range n).map fun t => if t = a then g t else 0).sum = if a < n then g a else 0
  | 0 => by simp
  | n + 1 => by
    rw [List.range_succ, List.map_append, List.sum_append, sum_pick g a n]
    simp only [List.map_cons, List.map_nil, List.sum_cons, List.sum_nil]
    by_cases h : n = a
    · subst h; simp
    · by_cases h2 : a < n
      · have : a < n + 1 := by omega
        simp [h, h2, this]
      · have : ¬ a < n + 1 := by omega
        simp [h, h2, this]
theorem getD_map_range (f : Nat → Int) {n i : Nat} (h : i < n) : ((List.range n).map f).getD i 0 = f i := by
  rw [List.getD_eq_getElem?_getD, List.getElem?_map, List.getElem?_range h]; rfl

/-! ### ways of just so many steps -/
def Wn (ring : Int) (steps : List Int) : Nat → Int → Int
  | 0, z => if z % ring = 0 then 1 else 0
  | n + 1, z => (steps.map fun s => Wn ring steps n (z - s)).sum
theorem Wn_congr {ring : Int} {steps : List Int} : ∀ (n : Nat) {z z' : Int}, z % ring = z' % ring → Wn ring steps n z = Wn ring steps n z'
  | 0, z, z', h => by simp only [Wn, h]
  | n + 1, z, z', h => by
    simp only [Wn]
    exact sum_congr fun s _ => Wn_congr n (by rw [Int.sub_emod, h, ← Int.sub_emod])
theorem Wn_nonneg {ring : Int} {steps : List Int} : ∀ (n : Nat) (z : Int), 0 ≤ Wn ring steps n z
  | 0, z => by simp only [Wn]; split <;> omega
  | n + 1, z => sum_nonneg fun s _ => Wn_nonneg n (z - s)
theorem mod_lt_nat {ring : Int} (h : 1 ≤ ring) (z : Int) : (z % ring).toNat < ring.toNat := by
  have h1 := Int.emod_nonneg z (by omega : ring ≠ 0)
  have h2 := Int.emod_lt_of_pos z (by omega : 0 < ring)
  omega
theorem mod_nat {ring : Int} (h : 1 ≤ ring) (z : Int) : (((z % ring).toNat : Nat) : Int) = z % ring := by
  have h1 := Int.emod_nonneg z (by omega : ring ≠ 0)
  omega
/-- over each middle place -/
theorem Wn_mid {ring : Int} {steps : List Int} (h : 1 ≤ ring) (m : Nat) (other : Int) : ∀ (k : Nat) (one : Int), ((List.range ring.toNat).map fun t => Wn ring steps k ((t : Nat) - one) * Wn ring steps m (other - (t : Nat))).sum = Wn ring steps (k + m) (other - one)
  | 0, one => by
    have e : ∀ t, t ∈ List.range ring.toNat → Wn ring steps 0 ((t : Int) - one) * Wn ring steps m (other - (t : Nat)) = if t = (one % ring).toNat then Wn ring steps m (other - (t : Nat)) else 0 := fun t ht => by
      have ht' := List.mem_range.mp ht
      have e1 : ((t : Int) - one) % ring = 0 ↔ t = (one % ring).toNat := by
        have m1 := mod_nat h one
        constructor
        · intro z
          have z2 : (t : Int) % ring = one % ring := Int.emod_eq_emod_iff_emod_sub_eq_zero.mpr z
          rw [Int.emod_eq_of_lt (by omega) (by omega)] at z2
          omega
        · intro z
          apply Int.emod_eq_emod_iff_emod_sub_eq_zero.mp
          rw [z, m1, Int.emod_emod_of_dvd _ (Int.dvd_refl ring)]
      simp only [Wn]
      by_cases c : t = (one % ring).toNat
      · rw [if_pos (e1.mpr c), if_pos c]; omega
      · rw [if_neg fun z => c (e1.mp z), if_neg c]; omega
    rw [sum_congr e, sum_pick (fun t => Wn ring steps m (other - (t : Nat))), if_pos (mod_lt_nat h _)]
    rw [Nat.zero_add, mod_nat h]
    refine Wn_congr m ?_
    rw [Int.sub_emod, Int.emod_emod_of_dvd _ (Int.dvd_refl ring), ← Int.sub_emod]
  | k + 1, one => by
    have e : ∀ t, t ∈ List.range ring.toNat → Wn ring steps (k + 1) ((t : Int) - one) * Wn ring steps m (other - (t : Nat)) = (steps.map fun s => Wn ring steps k ((t : Nat) - (one + s)) * Wn ring steps m (other - (t : Nat))).sum := fun t _ => by
      rw [sum_mul]
      congr 1
      simp only [Wn]
      exact sum_congr fun s _ => by congr 1; omega
    rw [sum_congr e, sum_comm]
    have e2 : k + 1 + m = (k + m) + 1 := by omega
    rw [e2, Wn]
    refine sum_congr fun s _ => ?_
    rw [Wn_mid h m other k (one + s)]
    congr 1; omega

/-! ### places as bits -/
def msk (S : Nat → Bool) : Nat → Nat
  | 0 => 0
  | n + 1 => msk S n + (if S n = true then 2 ^ n else 0)
theorem msk_lt (S : Nat → Bool) : ∀ n : Nat, msk S n < 2 ^ n
  | 0 => by simp [msk]
  | n + 1 => by
    have := msk_lt S n
    rw [msk, Nat.pow_succ]
    split <;> omega
theorem msk_bit (S : Nat → Bool) : ∀ (n q : Nat), (msk S n).testBit q = (decide (q < n) && S q)
  | 0, q => by simp [msk]
  | n + 1, q => by
    have hl := msk_lt S n
    rw [msk]
    rcases Nat.lt_trichotomy q n with h | h | h
    · have e : decide (q < n + 1) = decide (q < n) := by rw [decide_eq_true (by omega : q < n + 1), decide_eq_true h]
      rw [e, ← msk_bit S n q]
      split
      · rw [Nat.add_comm, Nat.testBit_two_pow_add_gt h]
      · rfl
    · subst h
      have b0 : (msk S q).testBit q = false := Nat.testBit_lt_two_pow hl
      split
      · rename_i hs
        rw [Nat.add_comm, Nat.testBit_two_pow_add_eq, b0, hs, decide_eq_true (by omega : q < q + 1)]; rfl
      · rename_i hs
        rw [Nat.add_zero, b0, Bool.eq_false_iff.mpr hs]; simp
    · have l1 : msk S n + (if S n = true then 2 ^ n else 0) < 2 ^ q := by
        have h2 : 2 ^ (n + 1) ≤ 2 ^ q := Nat.pow_le_pow_right (by decide) h
        rw [Nat.pow_succ] at h2
        split <;> omega
      rw [Nat.testBit_lt_two_pow l1, decide_eq_false (by omega : ¬ q < n + 1)]; rfl
theorem of_bits {S : Nat → Bool} {n b : Nat} (h : b < 2 ^ n) (k : ∀ q, q < n → b.testBit q = S q) : b = msk S n := by
  refine Nat.eq_of_testBit_eq fun q => ?_
  rw [msk_bit]
  by_cases c : q < n
  · rw [k q c, decide_eq_true c]; rfl
  · have : b < 2 ^ q := Nat.lt_of_lt_of_le h (Nat.pow_le_pow_right (by decide) (by omega))
    rw [Nat.testBit_lt_two_pow this, decide_eq_false c]; rfl
theorem msk_ext {S T : Nat → Bool} {n : Nat} (h : ∀ q, q < n → S q = T q) : msk S n = msk T n := of_bits (msk_lt S n) fun q hq => by rw [msk_bit, decide_eq_true hq]; exact h q hq
theorem msk_inj {S T : Nat → Bool} {n : Nat} (h : msk S n = msk T n) : ∀ q, q < n → S q = T q := fun q hq => by
  have a := msk_bit S n q
  have b := msk_bit T n q
  rw [h, decide_eq_true hq, Bool.true_and] at a
  rw [decide_eq_true hq, Bool.true_and] at b
  rw [← a, b]
theorem msk_or (S T : Nat → Bool) (n : Nat) : msk S n ||| msk T n = msk (fun q => S q || T q) n := by
  refine Nat.eq_of_testBit_eq fun q => ?_
  rw [Nat.testBit_or, msk_bit, msk_bit, msk_bit]
  cases decide (q < n) <;> rfl
theorem msk_none (n : Nat) : msk (fun _ => false) n = 0 := by
  induction n with
  | zero => rfl
  | succ n ih => rw [msk, ih]; rfl
theorem msk_full (n : Nat) : msk (fun _ => true) n = 2 ^ n - 1 := by
  induction n with
  | zero => rfl
  | succ n ih =>
    have : 0 < 2 ^ n := Nat.pow_pos (by decide)
    rw [msk, ih, Nat.pow_succ]
    show 2 ^ n - 1 + 2 ^ n = _
    omega
theorem msk_one {n p : Nat} (h : p < n) : msk (fun q => decide (q = p)) n = 2 ^ p := (of_bits (Nat.pow_lt_pow_right (by decide) h) fun q _ => by rw [Nat.testBit_two_pow]; exact decide_eq_decide.mpr eq_comm).symm
/-- moved on, around -/
def mvS (ring : Int) (far : Int) (S : Nat → Bool) : Nat → Bool := fun q => S ((((q : Int) - far) % ring).toNat)
theorem msk_move {S : Nat → Bool} {n k : Nat} (h : k < n) : ((msk S n * 2 ^ k) ||| (msk S n / 2 ^ (n - k))) % 2 ^ n = msk (mvS (n : Int) (k : Int) S) n := by
  refine of_bits (Nat.mod_lt _ (Nat.pow_pos (by decide))) fun q hq => ?_
  rw [Nat.testBit_mod_two_pow, decide_eq_true hq, Bool.true_and, Nat.testBit_or, Nat.mul_comm, Nat.testBit_two_pow_mul, Nat.testBit_div_two_pow, msk_bit, msk_bit]
  unfold mvS
  by_cases c : k ≤ q
  · have e : (((q : Int) - (k : Int)) % (n : Int)).toNat = q - k := by
      rw [Int.emod_eq_of_lt (by omega) (by omega)]; omega
    rw [e, decide_eq_true c, decide_eq_true (by omega : q - k < n), decide_eq_false (by omega : ¬ q + (n - k) < n)]
    simp
  · have e : (((q : Int) - (k : Int)) % (n : Int)).toNat = q + (n - k) := by
      have : ((q : Int) - (k : Int)) % (n : Int) = ((q : Int) - k + n) % n := by rw [Int.add_emod_right]
      rw [this, Int.emod_eq_of_lt (by omega) (by omega)]; omega
    rw [e, decide_eq_false (by omega : ¬ q ≥ k), decide_eq_true (by omega : q + (n - k) < n)]
    simp
theorem mvS_mod {ring : Int} (far : Int) (S : Nat → Bool) : mvS ring (far % ring) S = mvS ring far S := by
  funext q
  unfold mvS
  rw [Int.sub_emod, Int.emod_emod_of_dvd _ (Int.dvd_refl ring), ← Int.sub_emod]
/-! what is come to, by counts of ways -/
theorem pos_sum {α : Type} {f : α → Int} : ∀ {l : List α}, (∀ x, x ∈ l → 0 ≤ f x) → (0 < (l.map f).sum ↔ ∃ x, x ∈ l ∧ 0 < f x)
  | [], _ => by simp
  | a :: l, h => by
    have ha := h a (List.mem_cons_self ..)
    have hl : ∀ x, x ∈ l → 0 ≤ f x := fun x hx => h x (List.mem_cons_of_mem _ hx)
    have ih := pos_sum hl
    have nn := sum_nonneg hl
    rw [List.map_cons, List.sum_cons]
    constructor
    · intro p
      by_cases c : 0 < f a
      · exact ⟨a, List.mem_cons_self .., c⟩
      · obtain ⟨x, hx, px⟩ := ih.mp (by omega)
        exact ⟨x, List.mem_cons_of_mem _ hx, px⟩
    · rintro ⟨x, hx, px⟩
      rcases List.mem_cons.mp hx with rfl | hx
      · omega
      · have := ih.mpr ⟨x, hx, px⟩; omega
/-- come to by just n steps, so much farther on -/
def Rn (ring : Int) (steps : List Int) (n : Nat) (z : Int) : Bool := decide (0 < Wn ring steps n z)
theorem Rn_congr {ring : Int} {steps : List Int} (n : Nat) {z z' : Int} (h : z % ring = z' % ring) : Rn ring steps n z = Rn ring steps n z' := by unfold Rn; rw [Wn_congr n h]
theorem Rn_zero {ring : Int} {steps : List Int} {z : Int} : Rn ring steps 0 z = decide (z % ring = 0) := by
  unfold Rn Wn
  by_cases h : z % ring = 0
  · rw [if_pos h, decide_eq_true h]; rfl
  · rw [if_neg h, decide_eq_false h]; rfl
theorem Rn_succ {ring : Int} {steps : List Int} {n : Nat} {z : Int} : Rn ring steps (n + 1) z = steps.any fun s => Rn ring steps n (z - s) := by
  rw [Bool.eq_iff_iff]
  unfold Rn
  rw [decide_eq_true_iff, Wn, pos_sum fun s _ => Wn_nonneg n (z - s), List.any_eq_true]
  constructor
  · rintro ⟨x, hx, p⟩; exact ⟨x, hx, decide_eq_true p⟩
  · rintro ⟨x, hx, p⟩; exact ⟨x, hx, of_decide_eq_true p⟩
theorem Rn_add {ring : Int} {steps : List Int} (h : 1 ≤ ring) (n m : Nat) (z : Int) : Rn ring steps (n + m) z = (List.range ring.toNat).any fun t => Rn ring steps m (t : Nat) && Rn ring steps n (z - (t : Nat)) := by
  rw [Bool.eq_iff_iff]
  unfold Rn
  rw [decide_eq_true_iff, List.any_eq_true]
  have e := Wn_mid h n z (k := m) 0 (steps := steps)
  rw [Int.sub_zero, Nat.add_comm m n] at e
  rw [← e, pos_sum fun t _ => Int.mul_nonneg (Wn_nonneg m _) (Wn_nonneg n _)]
  constructor
  · rintro ⟨t, ht, p⟩
    have a := Wn_nonneg (ring := ring) (steps := steps) m ((t : Int) - 0)
    have b := Wn_nonneg (ring := ring) (steps := steps) n (z - (t : Nat))
    refine ⟨t, ht, ?_⟩
    rw [Bool.and_eq_true, decide_eq_true_iff, decide_eq_true_iff]
    rw [Int.sub_zero] at a p
    refine ⟨?_, ?_⟩
    · rcases Int.lt_or_eq_of_le a with q | q
      · exact q
      · rw [← q, Int.zero_mul] at p; omega
    · rcases Int.lt_or_eq_of_le b with q | q
      · exact q
      · rw [← q, Int.mul_zero] at p; omega
  · rintro ⟨t, ht, p⟩
    rw [Bool.and_eq_true, decide_eq_true_iff, decide_eq_true_iff] at p
    exact ⟨t, ht, by rw [Int.sub_zero]; exact Int.mul_pos p.1 p.2⟩
def aftS (ring : Int) (steps : List Int) (place : Int) (n : Nat) : Nat → Bool := fun q => Rn ring steps n ((q : Int) - place)
/-- the places behind n steps, as bits -/
def aftM (ring : Int) (steps : List Int) (place : Int) (n : Nat) : Int := ((msk (aftS ring steps place n) ring.toNat : Nat) : Int)
theorem aftM_zero {ring : Int} {steps : List Int} {place : Int} (h0 : 0 ≤ place) (h1 : place < ring) : aftM ring steps place 0 = 2 ^ place.toNat := by
  unfold aftM
  have e : msk (aftS ring steps place 0) ring.toNat = msk (fun q => decide (q = place.toNat)) ring.toNat := msk_ext fun q hq => by
    unfold aftS
    rw [Rn_zero]
    refine decide_eq_decide.mpr ⟨fun e => ?_, fun e => ?_⟩
    · have e2 := Int.emod_eq_emod_iff_emod_sub_eq_zero.mpr e
      rw [Int.emod_eq_of_lt (by omega) (by omega), Int.emod_eq_of_lt (by omega) (by omega)] at e2
      omega
    · have : (q : Int) - place = 0 := by omega
      rw [this]; simp
  rw [e, msk_one (by omega)]
  simp

/-! ### spread over a ring, in rounds -/
abbrev BS := List (Option Int) × List (Option Int) × List Int
def visit (v : Int) (a : Nat) (there : Nat) (S : BS) : BS := if S.1.getD there none = none then (S.1.set there (some v), S.2.1.set there (some (a : Int)), S.2.2 ++ [(there : Int)]) else S
def toP (ring : Int) (here s : Int) : Nat := ((here + s) % ring).toNat
def innF (ring : Int) (steps : List Int) (v here : Int) : Nat → BS → BS
  | 0, S => S
  | k + 1, S => visit v k (toP ring here (steps.getD k 0)) (innF ring steps v here k S)
def outF (ring : Int) (steps : List Int) (v : Int) (line : List Int) : Nat → BS → BS
  | 0, S => S
  | k + 1, S => innF ring steps v (line.getD k 0) steps.length (outF ring steps v line k S)
def lev (ring : Int) (steps : List Int) (v : Int) (S : BS) : BS := outF ring steps v S.2.2 S.2.2.length (S.1, S.2.1, [])
def bfs (ring : Int) (steps : List Int) (place : Int) : Nat → BS
  | 0 => ((List.replicate ring.toNat none).set place.toNat (some 0), List.replicate ring.toNat none, [place])
  | n + 1 => lev ring steps ((n : Int) + 1) (bfs ring steps place n)
/-- first come to by n steps -/
def IsD (ring : Int) (steps : List Int) (place : Int) (n : Nat) (q : Int) : Prop := Rn ring steps n (q - place) = true ∧ ∀ m, m < n → Rn ring steps m (q - place) = false
section
variable {ring : Int} {steps : List Int} {place : Int}
theorem IsD.uniq {n m : Nat} {q : Int} (a : IsD ring steps place n q) (b : IsD ring steps place m q) : n = m := by
  rcases Nat.lt_trichotomy n m with h | h | h
  · have := a.1; rw [b.2 n h] at this; cases this
  · exact h
  · have := b.1; rw [a.2 m h] at this; cases this
theorem IsD.of {n : Nat} {q : Int} (h : Rn ring steps n (q - place) = true) : ∃ k, k ≤ n ∧ IsD ring steps place k q := by
  induction n using Nat.strongRecOn with
  | _ N ih =>
    by_cases c : ∃ m, m < N ∧ Rn ring steps m (q - place) = true
    · obtain ⟨m, lt, hm⟩ := c
      obtain ⟨k, l, a⟩ := ih m lt hm
      exact ⟨k, by omega, a⟩
    · exact ⟨N, Nat.le_refl N, h, fun m lt => by
        cases z : Rn ring steps m (q - place) with
        | false => rfl
        | true => exact absurd ⟨m, lt, z⟩ c⟩
theorem mod_in (h : 1 ≤ ring) (z : Int) : 0 ≤ z % ring ∧ z % ring < ring := ⟨Int.emod_nonneg _ (by omega), Int.emod_lt_of_pos _ (by omega)⟩
/-- one step ahead of it -/
theorem IsD.pred (h : 1 ≤ ring) {n : Nat} {q : Int} (d : IsD ring steps place (n + 1) q) : ∃ s, s ∈ steps ∧ IsD ring steps place n ((q - s) % ring) := by
  obtain ⟨d1, d2⟩ := d
  rw [Rn_succ, List.any_eq_true] at d1
  obtain ⟨s, hs, r⟩ := d1
  have e : ∀ m, Rn ring steps m ((q - s) % ring - place) = Rn ring steps m (q - place - s) := fun m => Rn_congr m (by rw [Int.sub_emod, Int.emod_emod_of_dvd _ (Int.dvd_refl ring), ← Int.sub_emod]; congr 1; omega)
  refine ⟨s, hs, by rw [e]; exact r, fun m hm => ?_⟩
  rw [e]
  cases z : Rn ring steps m (q - place - s) with
  | false => rfl
  | true =>
    have := d2 (m + 1) (by omega)
    rw [Rn_succ, List.any_eq_false] at this
    exact absurd z (this s hs)
theorem Rn_to (h : 1 ≤ ring) {n : Nat} {here s : Int} (hs : s ∈ steps) (r : Rn ring steps n (here - place) = true) : Rn ring steps (n + 1) ((here + s) % ring - place) = true := by
  rw [Rn_succ, List.any_eq_true]
  refine ⟨s, hs, ?_⟩
  rw [← r]
  exact Rn_congr n (by
    have e : (here + s) % ring - place - s = (here + s) % ring - (place + s) := by omega
    rw [e, Int.sub_emod, Int.emod_emod_of_dvd _ (Int.dvd_refl ring), ← Int.sub_emod]; congr 1; omega)
/-- the state within a round: n the round ahead -/
structure BI (ring : Int) (steps : List Int) (place : Int) (n : Nat) (S : BS) : Prop where
  lf : S.1.length = ring.toNat
  ll : S.2.1.length = ring.toNat
  of : ∀ (q : Nat) (c : Int), S.1[q]? = some (some c) → ∃ k : Nat, k ≤ n + 1 ∧ c = k ∧ IsD ring steps place k q ∧ (k = n + 1 → (q : Int) ∈ S.2.2)
  on : ∀ (q k : Nat), q < ring.toNat → k ≤ n → IsD ring steps place k q → S.1[q]? = some (some (k : Int))
  mo : ∀ q, q ∈ S.2.2 → 0 ≤ q ∧ q < ring ∧ S.1[q.toNat]? = some (some ((n : Int) + 1)) ∧ IsD ring steps place (n + 1) q
  la : ∀ (q : Nat) (k : Nat), S.1[q]? = some (some ((k : Int) + 1)) → ∃ (a : Nat) (s : Int), S.2.1[q]? = some (some (a : Int)) ∧ steps[a]? = some s ∧ S.1[(((q : Int) - s) % ring).toNat]? = some (some (k : Int))
theorem BI.visit (h1 : 1 ≤ ring) {n : Nat} {S : BS} (b : BI ring steps place n S) {here : Int} (h0 : 0 ≤ here) (hh : here < ring) (hd : IsD ring steps place n here) {a : Nat} (ha : a < steps.length) :
    BI ring steps place n (visit ((n : Int) + 1) a (toP ring here (steps.getD a 0)) S) := by
  have hs : steps[a]? = some (steps.getD a 0) := by rw [List.getD_eq_getElem?_getD, List.getElem?_eq_getElem ha]; rfl
  generalize steps.getD a 0 = s at hs
  have ms : s ∈ steps := List.mem_of_getElem? hs
  obtain ⟨t0, t1⟩ := mod_in h1 (here + s)
  have tq : toP ring here s = ((here + s) % ring).toNat := rfl
  have te : ((toP ring here s : Nat) : Int) = (here + s) % ring := by rw [tq]; omega
  have tl : toP ring here s < ring.toNat := by rw [tq]; omega
  generalize toP ring here s = t at tq te tl
  unfold R.visit
  by_cases c : S.1.getD t none = none
  · rw [if_pos c]
    have hn : S.1[t]? = some none := by
      rw [List.getD_eq_getElem?_getD, List.getElem?_eq_getElem (by rw [b.lf]; exact tl)] at c
      rw [List.getElem?_eq_getElem (by rw [b.lf]; exact tl)]
      exact congrArg some c
    have td : IsD ring steps place (n + 1) t := by
      refine ⟨by rw [te]; exact Rn_to h1 ms hd.1, fun m hm => ?_⟩
      cases z : Rn ring steps m ((t : Int) - place) with
      | false => rfl
      | true =>
        obtain ⟨k, hk, d⟩ := IsD.of z
        have := b.on t k tl (by omega) d
        rw [hn] at this
        cases this
    have keep : ∀ (q : Nat) (c : Int), S.1[q]? = some (some c) → (S.1.set t (some ((n : Int) + 1)))[q]? = some (some c) := fun q c e => by
      have ne : t ≠ q := fun z => by rw [← z, hn] at e; cases e
      rw [List.getElem?_set_ne ne]; exact e
    have self : (S.1.set t (some ((n : Int) + 1)))[t]? = some (some ((n : Int) + 1)) := by rw [List.getElem?_set_self (by rw [b.lf]; exact tl)]
    refine ⟨by rw [List.length_set]; exact b.lf, by rw [List.length_set]; exact b.ll, fun q c e => ?_, fun q k hq hk d => keep q k (b.on q k hq hk d), fun q hq => ?_, fun q k e => ?_⟩
    · by_cases z : t = q
      · subst z
        rw [self] at e
        cases e
        exact ⟨n + 1, Nat.le_refl _, by omega, td, fun _ => by simp⟩
      · rw [List.getElem?_set_ne z] at e
        obtain ⟨k, a1, a2, a3, a4⟩ := b.of q c e
        exact ⟨k, a1, a2, a3, fun w => List.mem_append_left _ (a4 w)⟩
    · rcases List.mem_append.mp hq with w | w
      · obtain ⟨a1, a2, a3, a4⟩ := b.mo q w
        exact ⟨a1, a2, keep _ _ a3, a4⟩
      · have e : q = (t : Int) := by simpa using w
        subst e
        exact ⟨by omega, by omega, by rw [Int.toNat_natCast]; exact self, td⟩
    · by_cases z : t = q
      · subst z
        rw [self] at e
        have ek : (k : Int) = n := by have := Option.some.inj (Option.some.inj e); omega
        refine ⟨a, s, List.getElem?_set_self (by rw [b.ll]; exact tl), hs, ?_⟩
        have ep : (((t : Int) - s) % ring) = here := by
          rw [te, Int.sub_emod, Int.emod_emod_of_dvd _ (Int.dvd_refl ring), ← Int.sub_emod, Int.add_sub_cancel, Int.emod_eq_of_lt h0 hh]
        rw [ep, ek]
        refine keep _ _ (b.on here.toNat n (by omega) (Nat.le_refl _) ?_)
        rw [show ((here.toNat : Nat) : Int) = here by omega]; exact hd
      · rw [List.getElem?_set_ne z] at e
        obtain ⟨a', s', a1, a2, a3⟩ := b.la q k e
        exact ⟨a', s', by rw [List.getElem?_set_ne z]; exact a1, a2, keep _ _ a3⟩
  · rw [if_neg c]; exact b
theorem visit_ne {v : Int} {a t : Nat} {S : BS} {q : Nat} (h : S.1.getD q none ≠ none) : (visit v a t S).1.getD q none ≠ none := by
  unfold R.visit
  split
  · rename_i c
    by_cases z : t = q
    · subst z; exact absurd c h
    · rw [List.getD_eq_getElem?_getD] at h ⊢
      show ((S.1.set t (some v))[q]?).getD none ≠ none
      rw [List.getElem?_set_ne z]; exact h
  · exact h
theorem visit_at {v : Int} {a t : Nat} {S : BS} (h : t < S.1.length) : (visit v a t S).1.getD t none ≠ none := by
  unfold R.visit
  split
  · rw [List.getD_eq_getElem?_getD]
    show ((S.1.set t (some v))[t]?).getD none ≠ none
    rw [List.getElem?_set_self h]; exact fun z => by cases z
  · rename_i c; exact c
theorem innF_ne {v here : Int} {S : BS} {q : Nat} (h : S.1.getD q none ≠ none) : ∀ k, (innF ring steps v here k S).1.getD q none ≠ none
  | 0 => h
  | k + 1 => visit_ne (innF_ne h k)
theorem outF_ne {v : Int} {line : List Int} {S : BS} {q : Nat} (h : S.1.getD q none ≠ none) : ∀ k, (outF ring steps v line k S).1.getD q none ≠ none
  | 0 => h
  | k + 1 => innF_ne (outF_ne h k) _
theorem BI.inn (h1 : 1 ≤ ring) {n : Nat} {S : BS} (b : BI ring steps place n S) {here : Int} (h0 : 0 ≤ here) (hh : here < ring) (hd : IsD ring steps place n here) : ∀ {k : Nat}, k ≤ steps.length → BI ring steps place n (innF ring steps ((n : Int) + 1) here k S) ∧ ∀ a, a < k → (innF ring steps ((n : Int) + 1) here k S).1.getD (toP ring here (steps.getD a 0)) none ≠ none
  | 0, _ => ⟨b, fun a h => by omega⟩
  | k + 1, hk => by
    obtain ⟨b1, c1⟩ := BI.inn h1 b h0 hh hd (k := k) (by omega)
    refine ⟨b1.visit h1 h0 hh hd (by omega), fun a ha => ?_⟩
    by_cases z : a = k
    · subst z
      refine visit_at ?_
      rw [b1.lf]
      have := mod_in h1 (here + steps.getD a 0)
      show ((here + steps.getD a 0) % ring).toNat < _
      omega
    · exact visit_ne (c1 a (by omega))
theorem BI.out (h1 : 1 ≤ ring) {n : Nat} {S : BS} (b : BI ring steps place n S) {line : List Int} (hl : ∀ q, q ∈ line → 0 ≤ q ∧ q < ring ∧ IsD ring steps place n q) : ∀ {k : Nat}, k ≤ line.length → BI ring steps place n (outF ring steps ((n : Int) + 1) line k S) ∧ ∀ i a, i < k → a < steps.length → (outF ring steps ((n : Int) + 1) line k S).1.getD (toP ring (line.getD i 0) (steps.getD a 0)) none ≠ none
  | 0, _ => ⟨b, fun i a h => by omega⟩
  | k + 1, hk => by
    obtain ⟨b1, c1⟩ := BI.out h1 b hl (k := k) (by omega)
    have hm : line.getD k 0 ∈ line := by rw [List.getD_eq_getElem?_getD, List.getElem?_eq_getElem (by omega)]; exact List.getElem_mem _
    obtain ⟨m1, m2, m3⟩ := hl _ hm
    obtain ⟨b2, c2⟩ := b1.inn h1 m1 m2 m3 (Nat.le_refl _)
    refine ⟨b2, fun i a hi ha => ?_⟩
    by_cases z : i = k
    · subst z; exact c2 a ha
    · exact innF_ne (c1 i a (by omega) ha) _
/-- the state between rounds -/
structure BF (ring : Int) (steps : List Int) (place : Int) (n : Nat) (S : BS) : Prop where
  lf : S.1.length = ring.toNat
  ll : S.2.1.length = ring.toNat
  of : ∀ (q : Nat) (c : Int), S.1[q]? = some (some c) → ∃ k : Nat, k ≤ n ∧ c = k ∧ IsD ring steps place k q
  on : ∀ (q k : Nat), q < ring.toNat → k ≤ n → IsD ring steps place k q → S.1[q]? = some (some (k : Int))
  mo : ∀ q, q ∈ S.2.2 ↔ 0 ≤ q ∧ q < ring ∧ IsD ring steps place n q
  la : ∀ (q : Nat) (k : Nat), S.1[q]? = some (some ((k : Int) + 1)) → ∃ (a : Nat) (s : Int), S.2.1[q]? = some (some (a : Int)) ∧ steps[a]? = some s ∧ S.1[(((q : Int) - s) % ring).toNat]? = some (some (k : Int))
theorem BF.toI {n : Nat} {S : BS} (b : BF ring steps place n S) : BI ring steps place n (S.1, S.2.1, []) :=
  ⟨b.lf, b.ll, fun q c e => by
    obtain ⟨k, a1, a2, a3⟩ := b.of q c e
    exact ⟨k, by omega, a2, a3, fun w => by omega⟩, b.on, (fun q hq => by cases hq), b.la⟩
theorem bfs_ok (h1 : 1 ≤ ring) (p0 : 0 ≤ place) (p1 : place < ring) : ∀ n, BF ring steps place n (bfs ring steps place n)
  | 0 => by
    have zero : ∀ q : Int, 0 ≤ q → q < ring → (IsD ring steps place 0 q ↔ q = place) := fun q a b => by
      unfold IsD
      rw [Rn_zero, decide_eq_true_iff]
      refine ⟨fun ⟨e, _⟩ => ?_, fun e => ⟨by rw [e]; simp, fun m hm => by omega⟩⟩
      have e2 := Int.emod_eq_emod_iff_emod_sub_eq_zero.mpr e
      rw [Int.emod_eq_of_lt a b, Int.emod_eq_of_lt p0 p1] at e2
      exact e2
    have pl : place.toNat < ring.toNat := by omega
    have at0 : ∀ (q : Nat) (c : Int), (((List.replicate ring.toNat (none : Option Int)).set place.toNat (some 0))[q]? = some (some c)) → q = place.toNat ∧ c = 0 := fun q c e => by
      by_cases z : place.toNat = q
      · subst z
        rw [List.getElem?_set_self (by rw [List.length_replicate]; exact pl)] at e
        cases e
        exact ⟨rfl, rfl⟩
      · rw [List.getElem?_set_ne z, List.getElem?_replicate] at e
        split at e <;> cases e
    refine ⟨by show (List.set _ _ _).length = _; rw [List.length_set, List.length_replicate], List.length_replicate, fun q c e => ?_, fun q k hq hk d => ?_, fun q => ?_, fun q k e => ?_⟩
    · obtain ⟨rfl, rfl⟩ := at0 q c e
      exact ⟨0, Nat.le_refl _, rfl, (zero _ (by omega) (by omega)).mpr (by omega)⟩
    · obtain rfl : k = 0 := by omega
      have e := (zero q (by omega) (by omega)).mp d
      have e' : q = place.toNat := by omega
      subst e'
      show ((List.replicate ring.toNat (none : Option Int)).set place.toNat (some 0))[place.toNat]? = _
      rw [List.getElem?_set_self (by rw [List.length_replicate]; exact pl)]; rfl
    · show q ∈ [place] ↔ _
      rw [List.mem_singleton]
      refine ⟨fun e => by subst e; exact ⟨p0, p1, (zero _ p0 p1).mpr rfl⟩, fun ⟨a, b, d⟩ => (zero q a b).mp d⟩
    · obtain ⟨_, e2⟩ := at0 q _ e
      omega
  | n + 1 => by
    have b := bfs_ok h1 p0 p1 n
    have hl : ∀ q, q ∈ (bfs ring steps place n).2.2 → 0 ≤ q ∧ q < ring ∧ IsD ring steps place n q := fun q hq => (b.mo q).mp hq
    obtain ⟨b2, c2⟩ := b.toI.out h1 hl (Nat.le_refl _)
    show BF ring steps place (n + 1) (lev ring steps ((n : Int) + 1) (bfs ring steps place n))
    unfold lev
    -- what is first come to by n + 1 steps is set
    have key : ∀ q : Nat, q < ring.toNat → IsD ring steps place (n + 1) q → (outF ring steps ((n : Int) + 1) (bfs ring steps place n).2.2 (bfs ring steps place n).2.2.length ((bfs ring steps place n).1, (bfs ring steps place n).2.1, [])).1[q]? = some (some (((n + 1 : Nat) : Nat) : Int)) := fun q hq d => by
      obtain ⟨s, hs, dp⟩ := d.pred h1
      obtain ⟨t0, t1⟩ := mod_in h1 ((q : Int) - s)
      have mh := (b.mo (((q : Int) - s) % ring)).mpr ⟨t0, t1, dp⟩
      obtain ⟨i, hi, ei⟩ := List.getElem_of_mem mh
      obtain ⟨a, hA, ea⟩ := List.getElem_of_mem hs
      have z := c2 i a hi hA
      have e1 : (bfs ring steps place n).2.2.getD i 0 = ((q : Int) - s) % ring := by rw [List.getD_eq_getElem?_getD, List.getElem?_eq_getElem hi, ei]; rfl
      have e2 : steps.getD a 0 = s := by rw [List.getD_eq_getElem?_getD, List.getElem?_eq_getElem hA, ea]; rfl
      have e3 : toP ring (((q : Int) - s) % ring) s = q := by
        unfold toP
        rw [Int.add_emod, Int.emod_emod_of_dvd _ (Int.dvd_refl ring), ← Int.add_emod, Int.sub_add_cancel, Int.emod_eq_of_lt (by omega) (by omega)]; omega
      rw [e1, e2, e3, List.getD_eq_getElem?_getD, List.getElem?_eq_getElem (by rw [b2.lf]; exact hq)] at z
      rw [List.getElem?_eq_getElem (by rw [b2.lf]; exact hq)]
      cases w : (outF ring steps ((n : Int) + 1) (bfs ring steps place n).2.2 (bfs ring steps place n).2.2.length ((bfs ring steps place n).1, (bfs ring steps place n).2.1, [])).1[q]'(by rw [b2.lf]; exact hq) with
      | none => rw [w] at z; exact absurd rfl z
      | some c =>
        obtain ⟨k, a1, a2, a3, a4⟩ := b2.of q c (by rw [List.getElem?_eq_getElem (by rw [b2.lf]; exact hq), w])
        have := a3.uniq d
        rw [a2, this]
    refine ⟨b2.lf, b2.ll, fun q c e => ?_, fun q k hq hk d => ?_, fun q => ⟨fun hq => ?_, fun ⟨q0, q1, d⟩ => ?_⟩, b2.la⟩
    · obtain ⟨k, a1, a2, a3, _⟩ := b2.of q c e
      exact ⟨k, a1, a2, a3⟩
    · by_cases z : k = n + 1
      · subst z; exact key q hq d
      · exact b2.on q k hq (by omega) d
    · obtain ⟨a1, a2, _, a4⟩ := b2.mo q hq
      exact ⟨a1, a2, a4⟩
    · have kq := key q.toNat (by omega) (by rw [show ((q.toNat : Nat) : Int) = q by omega]; exact d)
      obtain ⟨k, a1, a2, a3, a4⟩ := b2.of q.toNat _ kq
      have ek : k = n + 1 := by omega
      have := a4 ek
      rw [show ((q.toNat : Nat) : Int) = q by omega] at this
      exact this
/-! when the line is empty -/
def nonC (f : List (Option Int)) : Nat := f.countP Option.isNone
theorem nonC_visit {v : Int} {a t : Nat} {S : BS} (h : t < S.1.length) : nonC (visit v a t S).1 + (visit v a t S).2.2.length = nonC S.1 + S.2.2.length := by
  unfold R.visit
  split
  · rename_i c
    show nonC (S.1.set t (some v)) + (S.2.2 ++ [(t : Int)]).length = _
    rw [List.length_append]
    have hn : S.1[t] = none := by
      rw [List.getD_eq_getElem?_getD, List.getElem?_eq_getElem h] at c; exact c
    unfold nonC
    rw [List.countP_set h, hn]
    have : 0 < S.1.countP Option.isNone := List.countP_pos_iff.mpr ⟨none, by rw [← hn]; exact List.getElem_mem _, rfl⟩
    simp only [Option.isNone_none, Option.isNone_some, if_true, List.length_singleton]
    simp
    omega
  · rfl
theorem innF_len {v here : Int} {S : BS} : ∀ k, (innF ring steps v here k S).1.length = S.1.length
  | 0 => rfl
  | k + 1 => by
    show (visit _ _ _ _).1.length = _
    unfold R.visit
    split
    · show (List.set _ _ _).length = _
      rw [List.length_set]; exact innF_len k
    · exact innF_len k
theorem outF_len {v : Int} {line : List Int} {S : BS} : ∀ k, (outF ring steps v line k S).1.length = S.1.length
  | 0 => rfl
  | k + 1 => (innF_len _).trans (outF_len k)
theorem toP_lt (h1 : 1 ≤ ring) (here s : Int) : toP ring here s < ring.toNat := by
  have := mod_in h1 (here + s)
  unfold toP; omega
theorem nonC_inn (h1 : 1 ≤ ring) {v here : Int} {S : BS} (hl : S.1.length = ring.toNat) : ∀ k, nonC (innF ring steps v here k S).1 + (innF ring steps v here k S).2.2.length = nonC S.1 + S.2.2.length
  | 0 => rfl
  | k + 1 => (nonC_visit (by rw [innF_len, hl]; exact toP_lt h1 _ _)).trans (nonC_inn h1 hl k)
theorem nonC_out (h1 : 1 ≤ ring) {v : Int} {line : List Int} {S : BS} (hl : S.1.length = ring.toNat) : ∀ k, nonC (outF ring steps v line k S).1 + (outF ring steps v line k S).2.2.length = nonC S.1 + S.2.2.length
  | 0 => rfl
  | k + 1 => (nonC_inn h1 (by rw [outF_len]; exact hl) _).trans (nonC_out h1 hl k)
theorem nonC_lev (h1 : 1 ≤ ring) (p0 : 0 ≤ place) (p1 : place < ring) (n : Nat) : nonC (bfs ring steps place (n + 1)).1 + (bfs ring steps place (n + 1)).2.2.length = nonC (bfs ring steps place n).1 := by
  have z := nonC_out (steps := steps) (v := (n : Int) + 1) h1 (line := (bfs ring steps place n).2.2) (S := ((bfs ring steps place n).1, (bfs ring steps place n).2.1, [])) (bfs_ok h1 p0 p1 n).lf (bfs ring steps place n).2.2.length
  exact z
theorem bfs_stop (n : Nat) (h : (bfs ring steps place n).2.2 = []) : bfs ring steps place (n + 1) = bfs ring steps place n := by
  show lev _ _ _ _ = _
  generalize bfs ring steps place n = S at h
  obtain ⟨f, l, m⟩ := S
  have : m = [] := h
  subst this
  rfl
theorem bfs_stops {n : Nat} (h : (bfs ring steps place n).2.2 = []) : ∀ m, bfs ring steps place (n + m) = bfs ring steps place n
  | 0 => rfl
  | m + 1 => by
    have e := bfs_stops h m
    rw [← Nat.add_assoc, bfs_stop (n + m) (by rw [e]; exact h), e]
theorem bfs_one (h1 : 1 ≤ ring) (p0 : 0 ≤ place) (p1 : place < ring) {n : Nat} (h : (bfs ring steps place n).2.2 = []) : bfs ring steps place n = bfs ring steps place 61 ∨ 61 < n := by
  by_cases c : n ≤ 61
  · left
    have := bfs_stops h (61 - n)
    rw [← this]; congr 1; omega
  · exact .inr (by omega)
theorem bfs_run (h1 : 1 ≤ ring) (p0 : 0 ≤ place) (p1 : place < ring) : ∀ n, (bfs ring steps place n).2.2 = [] ∨ nonC (bfs ring steps place n).1 + n ≤ ring.toNat
  | 0 => .inr (by
      have := List.countP_le_length (p := Option.isNone) (l := (bfs ring steps place 0).1)
      rw [(bfs_ok h1 p0 p1 0).lf] at this
      exact this)
  | n + 1 => by
    rcases bfs_run h1 p0 p1 n with e | e
    · exact .inl (by rw [bfs_stop n e]; exact e)
    · have z := nonC_lev (steps := steps) h1 p0 p1 n
      cases w : (bfs ring steps place (n + 1)).2.2 with
      | nil => exact .inl rfl
      | cons a b =>
        rw [w, List.length_cons] at z
        exact .inr (by omega)
theorem bfs_end (h1 : 1 ≤ ring) (hi : ring ≤ 60) (p0 : 0 ≤ place) (p1 : place < ring) : (bfs ring steps place 61).2.2 = [] := by
  rcases bfs_run (steps := steps) h1 p0 p1 61 with e | e
  · exact e
  · omega
/-- the counts and the last steps -/
@[irreducible] def cntL (ring : Int) (steps : List Int) (place : Int) : List (Option Int) := (bfs ring steps place 61).1
@[irreducible] def lasL (ring : Int) (steps : List Int) (place : Int) : List (Option Int) := (bfs ring steps place 61).2.1
theorem bfs_fin (h1 : 1 ≤ ring) (hi : ring ≤ 60) (p0 : 0 ≤ place) (p1 : place < ring) {n : Nat} (h : (bfs ring steps place n).2.2 = []) : (bfs ring steps place n).1 = cntL ring steps place ∧ (bfs ring steps place n).2.1 = lasL ring steps place := by
  have e61 := bfs_end (steps := steps) h1 hi p0 p1
  have e : bfs ring steps place n = bfs ring steps place 61 := by
    rcases bfs_one h1 p0 p1 h with e | e
    · exact e
    · have := bfs_stops e61 (n - 61)
      rw [show 61 + (n - 61) = n by omega] at this
      exact this
  unfold cntL lasL
  rw [e]; exact ⟨rfl, rfl⟩
theorem cnt_len (h1 : 1 ≤ ring) (p0 : 0 ≤ place) (p1 : place < ring) : (cntL ring steps place).length = ring.toNat := by unfold cntL; exact (bfs_ok h1 p0 p1 61).lf
theorem cnt_some (h1 : 1 ≤ ring) (p0 : 0 ≤ place) (p1 : place < ring) {q : Nat} {c : Int} (h : (cntL ring steps place)[q]? = some (some c)) : ∃ k : Nat, c = k ∧ IsD ring steps place k q := by
  unfold cntL at h
  obtain ⟨k, _, a2, a3⟩ := (bfs_ok h1 p0 p1 61).of q c h
  exact ⟨k, a2, a3⟩
theorem isd_lt (h1 : 1 ≤ ring) (hi : ring ≤ 60) (p0 : 0 ≤ place) (p1 : place < ring) : ∀ {k : Nat} {q : Int}, IsD ring steps place k q → k ≤ 60 := fun {k q} d => by
  have nope : ∀ m, ∀ q, ¬ IsD ring steps place (61 + m) q := by
    intro m
    induction m with
    | zero =>
      intro q d
      have dq : IsD ring steps place 61 (q % ring) := by
        have e : ∀ m, Rn ring steps m (q % ring - place) = Rn ring steps m (q - place) := fun m => Rn_congr m (by rw [Int.sub_emod, Int.emod_emod_of_dvd _ (Int.dvd_refl ring), ← Int.sub_emod])
        exact ⟨by rw [e]; exact d.1, fun m hm => by rw [e]; exact d.2 m hm⟩
      obtain ⟨t0, t1⟩ := mod_in h1 q
      have := ((bfs_ok h1 p0 p1 61).mo (q % ring)).mpr ⟨t0, t1, dq⟩
      rw [bfs_end h1 hi p0 p1] at this
      cases this
    | succ m ih =>
      intro q d
      obtain ⟨s, _, dp⟩ := d.pred h1
      exact ih _ dp
  by_cases c : k ≤ 60
  · exact c
  · exact absurd (show IsD ring steps place (61 + (k - 61)) q by rw [show 61 + (k - 61) = k by omega]; exact d) (nope (k - 61) q)
theorem cnt_isd (h1 : 1 ≤ ring) (hi : ring ≤ 60) (p0 : 0 ≤ place) (p1 : place < ring) {q k : Nat} (hq : q < ring.toNat) (d : IsD ring steps place k q) : (cntL ring steps place)[q]? = some (some (k : Int)) := by
  unfold cntL
  exact (bfs_ok h1 p0 p1 61).on q k hq (by have := isd_lt h1 hi p0 p1 d; omega) d
theorem cnt_none (h1 : 1 ≤ ring) (hi : ring ≤ 60) (p0 : 0 ≤ place) (p1 : place < ring) {q : Nat} (hq : q < ring.toNat) (h : (cntL ring steps place)[q]? = some none) (n : Nat) : Rn ring steps n ((q : Int) - place) = false := by
  cases z : Rn ring steps n ((q : Int) - place) with
  | false => rfl
  | true =>
    obtain ⟨k, _, d⟩ := IsD.of z
    rw [cnt_isd h1 hi p0 p1 hq d] at h
    cases h
theorem las_ok (h1 : 1 ≤ ring) (p0 : 0 ≤ place) (p1 : place < ring) {q k : Nat} (h : (cntL ring steps place)[q]? = some (some ((k : Int) + 1))) : ∃ (a : Nat) (s : Int), (lasL ring steps place)[q]? = some (some (a : Int)) ∧ steps[a]? = some s ∧ (cntL ring steps place)[(((q : Int) - s) % ring).toNat]? = some (some (k : Int)) := by
  unfold cntL at h ⊢
  unfold lasL
  exact (bfs_ok h1 p0 p1 61).la q k h
theorem las_len {ring : Int} {steps : List Int} {place : Int} (h1 : 1 ≤ ring) (p0 : 0 ≤ place) (p1 : place < ring) : (lasL ring steps place).length = ring.toNat := by unfold lasL; exact (bfs_ok h1 p0 p1 61).ll
end

/-! ### spread, walked -/
def optD : Option Int → D
  | none => .non
  | some i => .int i
theorem opt_nv : ∀ o : Option Int, ∀ w, optD o ≠ .val w
  | none, _, h => by cases h
  | some _, _, h => by cases h
theorem opt_sc : ∀ o : Option Int, Sc (optD o)
  | none => .non
  | some _ => .int
theorem sc_opts {l : List (Option Int)} : ∀ d, d ∈ l.map optD → Sc d := fun d hd => by
  obtain ⟨o, _, rfl⟩ := List.mem_map.mp hd
  exact opt_sc o
theorem at_opt {f : List (Option Int)} {t : Nat} {z : Int} (e : z = (t : Int)) (h : t < f.length) : atI (f.map optD) z = some (optD (f.getD t none)) := by
  subst e
  refine at_of' (by omega) ?_
  rw [Int.toNat_natCast, List.getElem?_map, List.getD_eq_getElem?_getD, List.getElem?_eq_getElem h]; rfl
theorem rep_opt (n : Nat) : (List.replicate n [D.non]).flatten = (List.replicate n (none : Option Int)).map optD := by
  induction n with
  | zero => rfl
  | succ n ih => rw [List.replicate_succ, List.flatten_cons, ih, List.replicate_succ]; rfl
theorem visit_yes {v : Int} {a t : Nat} {S : BS} (c : S.1.getD t none = none) : visit v a t S = (S.1.set t (some v), S.2.1.set t (some (a : Int)), S.2.2 ++ [(t : Int)]) := if_pos c
theorem visit_no {v : Int} {a t : Nat} {S : BS} (c : ¬ S.1.getD t none = none) : visit v a t S = S := if_neg c
theorem innF_len2 {ring : Int} {steps : List Int} {v here : Int} {S : BS} : ∀ k, (innF ring steps v here k S).2.1.length = S.2.1.length
  | 0 => rfl
  | k + 1 => by
    show (visit _ _ _ _).2.1.length = _
    unfold visit
    split
    · show (List.set _ _ _).length = _
      rw [List.length_set]; exact innF_len2 k
    · exact innF_len2 k
theorem outF_len2 {ring : Int} {steps : List Int} {v : Int} {line : List Int} {S : BS} : ∀ k, (outF ring steps v line k S).2.1.length = S.2.1.length
  | 0 => rfl
  | k + 1 => (innF_len2 _).trans (outF_len2 k)
section
variable {P : Program} {w : World} {K : PySem.W.Frag} {mg : Str → Option Value} {base : Heap}
theorem more_len {ring : Int} {steps : List Int} (h1 : 1 ≤ ring) {v : Int} {line : List Int} {S : BS} (hl : S.1.length = ring.toNat) (hm : S.2.2 = []) (k : Nat) {here : Int} (j : Nat) : (innF ring steps v here j (outF ring steps v line k S)).2.2.length ≤ ring.toNat := by
  have a := nonC_inn (steps := steps) (v := v) (here := here) h1 (S := outF ring steps v line k S) (by rw [outF_len]; exact hl) j
  have b := nonC_out (steps := steps) (v := v) (line := line) h1 hl k
  have c : nonC S.1 ≤ S.1.length := List.countP_le_length
  rw [hm, List.length_nil] at b
  omega
theorem bfs_mu {ring : Int} {steps : List Int} {place : Int} (h1 : 1 ≤ ring) (p0 : 0 ≤ place) (p1 : place < ring) {n : Nat} (h : (bfs ring steps place n).2.2 ≠ []) :
    nonC (bfs ring steps place (n + 1)).1 + (if (bfs ring steps place (n + 1)).2.2 = [] then 0 else 1) < nonC (bfs ring steps place n).1 + (if (bfs ring steps place n).2.2 = [] then 0 else 1) := by
  have z := nonC_lev (steps := steps) h1 p0 p1 n
  rw [if_neg h]
  split
  · omega
  · rename_i c
    have : 0 < (bfs ring steps place (n + 1)).2.2.length := List.length_pos_iff.mpr c
    omega
def C_spread : Ct := fun ds s => ∃ ring steps place, ds = [.int ring, .ints steps, .int place] ∧ (1 ≤ ring ∧ ring ≤ 60) ∧ 0 ≤ place ∧ place < ring ∧ s = .d (.tup [.lst ((cntL ring steps place).map optD), .lst ((lasL ring steps place).map optD)])
set_option maxHeartbeats 4000000 in
theorem h_spread (B : Bi mg) (T : Df K mg "spread" s_spread ["ring", "steps", "place"]) : Has P w K mg base 1 "spread" [] C_spread := by
  refine has_def T sc_spread ?_ ?_
  · rintro ds s ⟨_, _, _, rfl, _⟩; rfl
  rintro ds s ⟨ring, steps, place, rfl, rs, p0, p1, rfl⟩ f cdv A outer s0 H E hr
  have nd := sc_spread.nd
  have r1 := rs.1
  have r2 := rs.2
  have hz : 1 * ring.toNat ≤ sizeLine := by rw [sizeLine_eq]; omega
  refine hs_par3 3 4 5 nd (as_o (po_is (po_rep (pp_o (po_lst (aq_cons pp_N aq_nil))) (pp_v 0) (by omega) (by omega) hz) (rep_opt ring.toNat)) (as_o (po_is (po_rep (pp_o (po_lst (aq_cons pp_N aq_nil))) (pp_v 0) (by omega) (by omega) hz) (rep_opt ring.toNat)) (as_o (po_lst (aq_cons (pp_v 2) aq_nil)) as_nil))) ?_
  refine hs_put (d := .int 0) (xs := (List.replicate ring.toNat (none : Option Int)).map optD) 3 pp_n (pb_v 2) (ix_of p0 (by rw [List.length_map, List.length_replicate]; omega)) ?_
  refine hs_cons (M := fun r => ∃ n : Nat, r = [.i ring, .is steps, .i place, .o ((cntL ring steps place).map optD), .o ((lasL ring steps place).map optD), .o ((bfs ring steps place n).2.2.map .int), .un, .un, .un, .un, .un])
    (s1_while (Z := Nat) (fun n => [.i ring, .is steps, .i place, .o ((bfs ring steps place n).1.map optD), .o ((bfs ring steps place n).2.1.map optD), .o ((bfs ring steps place n).2.2.map .int), .un, .un, .un, .un, .un]) (fun n => nonC (bfs ring steps place n).1 + (if (bfs ring steps place n).2.2 = [] then 0 else 1)) 0 (fun n => !decide ((bfs ring steps place n).2.2 = [])) (fun _ => True) (Le.of ?_) trivial
      (fun n _ => tq_cmp (cr_neL (b := []) hr) (pb_w 5) (pb_o (po_lst aq_nil))) (fun n _ hk => ?_) (fun n _ hk => ?_)) ?_
  · show [Slot.i ring, .is steps, .i place, .o (((List.replicate ring.toNat (none : Option Int)).map optD).set place.toNat (.int 0)), _, _, _, _, _, _, _] = [_, _, _, .o (((List.replicate ring.toNat (none : Option Int)).set place.toNat (some 0)).map optD), _, _, _, _, _, _, _]
    rw [List.map_set]; rfl
  · have ne : (bfs ring steps place n).2.2 ≠ [] := of_decide_eq_false (by simpa using hk)
    have ok := bfs_ok (steps := steps) r1 p0 p1 n
    have lf := ok.lf
    have ll := ok.ll
    have mo := fun q hq => (ok.mo q).mp hq
    have hmu := bfs_mu (steps := steps) r1 p0 p1 ne
    have eL : bfs ring steps place (n + 1) = outF ring steps ((n : Int) + 1) (bfs ring steps place n).2.2 (bfs ring steps place n).2.2.length ((bfs ring steps place n).1, (bfs ring steps place n).2.1, []) := rfl
    generalize hS : bfs ring steps place n = S at *
    refine hs_asgO 6 nd (po_lst aq_nil) ?_
    refine hs_le (r1 := [.i ring, .is steps, .i place, .o (S.1.map optD), .o (S.2.1.map optD), .is S.2.2, .o [], .un, .un, .un, .un]) (.same (.same (.same (.same (.same (.tell Le.refl)))))) ?_
    refine hs_forL (r1 := [.i ring, .is steps, .i place, .o ((bfs ring steps place (n + 1)).1.map optD), .o ((bfs ring steps place (n + 1)).2.1.map optD), .is S.2.2, .o ((bfs ring steps place (n + 1)).2.2.map .int), .un, .un, .un, .un])
      (s1_forI 7 nd (fun k => [.i ring, .is steps, .i place, .o ((outF ring steps ((n : Int) + 1) S.2.2 k (S.1, S.2.1, [])).1.map optD), .o ((outF ring steps ((n : Int) + 1) S.2.2 k (S.1, S.2.1, [])).2.1.map optD), .is S.2.2, .o ((outF ring steps ((n : Int) + 1) S.2.2 k (S.1, S.2.1, [])).2.2.map .int), .un, .un, .un, .un]) (pp_v 5) Le.refl (fun k z hz => ?_) (by rw [eL]; exact Le.refl)) ?_
    · have ez : S.2.2.getD k 0 = z := by rw [List.getD_eq_getElem?_getD, hz]; rfl
      have hkl : k < S.2.2.length := (List.getElem?_eq_some_iff.mp hz).1
      obtain ⟨z0, z1, zd⟩ := mo z (List.mem_of_getElem? hz)
      have bO := (ok.toI.out r1 mo (k := k) (by omega)).1
      generalize hO : outF ring steps ((n : Int) + 1) S.2.2 k (S.1, S.2.1, []) = O at bO
      have lO : O.1.length = ring.toNat := bO.lf
      refine hs_one (s1_forEI B 8 9 nd (fun j => [.i ring, .is steps, .i place, .o ((innF ring steps ((n : Int) + 1) z j O).1.map optD), .o ((innF ring steps ((n : Int) + 1) z j O).2.1.map optD), .is S.2.2, .o ((innF ring steps ((n : Int) + 1) z j O).2.2.map .int), .i z, .un, .un, .un]) (pp_v 1) Le.refl (fun j y hy => ?_) ?_)
      · have ey : steps.getD j 0 = y := by rw [List.getD_eq_getElem?_getD, hy]; rfl
        have hjl : j < steps.length := (List.getElem?_eq_some_iff.mp hy).1
        have bI := (bO.inn r1 z0 z1 zd (k := j) (by omega)).1
        have ml : (innF ring steps ((n : Int) + 1) z j O).2.2.length ≤ ring.toNat := by rw [← hO]; exact more_len (S := (S.1, S.2.1, [])) r1 lf rfl k j
        have eI : innF ring steps ((n : Int) + 1) z (j + 1) O = visit ((n : Int) + 1) j (toP ring z y) (innF ring steps ((n : Int) + 1) z j O) := by rw [innF, ey]
        generalize hI : innF ring steps ((n : Int) + 1) z j O = I at *
        have lI : I.1.length = ring.toNat := bI.lf
        have lI2 : I.2.1.length = ring.toNat := bI.ll
        have hz0 : I.1.getD z.toNat none = some (n : Int) := by
          rw [List.getD_eq_getElem?_getD, bI.on z.toNat n (by omega) (Nat.le_refl _) (by rw [show ((z.toNat : Nat) : Int) = z by omega]; exact zd)]; rfl
        have tl := toP_lt r1 z y
        have te : (z + y) % ring = (toP ring z y : Nat) := by
          have := mod_in r1 (z + y)
          unfold toP; omega
        generalize toP ring z y = t at *
        refine hs_asg 10 nd (pp_s (pb_mod (pb_add (pb_v 7) (pb_v 9)) (pb_v 0) (by omega))) ?_
        rw [te]
        have hat : atI (I.1.map optD) z = some (.int (n : Int)) := by
          have := at_opt (f := I.1) (t := z.toNat) (z := z) (by omega) (by omega)
          rw [hz0] at this; exact this
        by_cases c : I.1.getD t none = none
        · rw [eI, visit_yes c]
          refine hs_one (s1_if (k := true) (tq_is (tq_cmp (cr_isN (opt_nv (I.1.getD t none))) (pb_ix (pb_w 3) (pb_v 10) (at_opt rfl (by omega))) pb_N) (by rw [c]; rfl)) (fun _ => ?_) (fun h => by cases h))
          refine hs_asgU (pp_tup (aq_cons (pp_s (pb_add (pb_ix (pb_w 3) (pb_v 7) hat) pb_n)) (aq_cons (pp_v 8) aq_nil))) (gu_t (gus_cons (gu_ix (xs := I.1.map optD) (jx := t) 3 (pb_v 10) (by rw [ix_of (by omega) (by rw [List.length_map]; omega)]; rfl)) (gus_cons (gu_ix (xs := I.2.1.map optD) (jx := t) 4 (pb_v 10) (by rw [ix_of (by omega) (by rw [List.length_map]; omega)]; rfl)) gus_nil))) ?_
          refine hs_app (xs := I.2.2.map .int) 6 (pp_v 10) (by rw [List.length_map, sizeLine_eq]; omega) (hs_nil ?_)
          show Le [_, _, _, .o ((I.1.map optD).set t (.int ((n : Int) + 1))), .o ((I.2.1.map optD).set t (.int (j : Nat))), _, .o (I.2.2.map .int ++ [.int (t : Nat)]), _, _, _, _] [_, _, _, .o ((I.1.set t (some ((n : Int) + 1))).map optD), .o ((I.2.1.set t (some (j : Int))).map optD), _, .o ((I.2.2 ++ [(t : Int)]).map .int), _, _, _, _]
          rw [List.map_set, List.map_set, List.map_append]
          exact .same (.same (.same (.same (.same (.same (.same (.same (.drop (.drop (.drop .nil))))))))))
        · rw [eI, visit_no c]
          refine hs_no (tq_is (tq_cmp (cr_isN (opt_nv (I.1.getD t none))) (pb_ix (pb_w 3) (pb_v 10) (at_opt rfl (by omega))) pb_N) ?_) (hs_nil ?_)
          · cases q : I.1.getD t none with
            | none => exact absurd q c
            | some _ => rfl
          · exact .same (.same (.same (.same (.same (.same (.same (.same (.drop (.drop (.drop .nil))))))))))
      · have eo : outF ring steps ((n : Int) + 1) S.2.2 (k + 1) (S.1, S.2.1, []) = innF ring steps ((n : Int) + 1) z steps.length O := by rw [outF, ez, hO]
        show Le _ [_, _, _, .o ((outF ring steps ((n : Int) + 1) S.2.2 (k + 1) (S.1, S.2.1, [])).1.map optD), .o ((outF ring steps ((n : Int) + 1) S.2.2 (k + 1) (S.1, S.2.1, [])).2.1.map optD), _, .o ((outF ring steps ((n : Int) + 1) S.2.2 (k + 1) (S.1, S.2.1, [])).2.2.map .int), _, _, _, _]
        rw [eo]
        exact .same (.same (.same (.same (.same (.same (.same (.drop (.same (.same (.same .nil))))))))))
    · exact hs_mv 5 6 nd (hs_nil ⟨n + 1, trivial, hmu, Le.refl⟩)
  · have e : (bfs ring steps place n).2.2 = [] := of_decide_eq_true (by simpa using hk)
    refine ⟨n, ?_⟩
    rw [(bfs_fin r1 r2 p0 p1 e).1, (bfs_fin r1 r2 p0 p1 e).2]
  · rintro _ ⟨n, rfl⟩
    refine hs_le (r1 := [.i ring, .is steps, .i place, .d (.lst ((cntL ring steps place).map optD)), .d (.lst ((lasL ring steps place).map optD)), .o ((bfs ring steps place n).2.2.map .int), .un, .un, .un, .un, .un]) (.same (.same (.same (.tell (.tell Le.refl))))) ?_
    exact hs_ret (pp_tup (aq_cons (pp_v 3) (aq_cons (pp_v 4) aq_nil))) rfl
theorem ct_spread {ring place : Int} {steps : List Int} (rs : RS ring steps) (p0 : 0 ≤ place) (p1 : place < ring) : C_spread [.int ring, .ints steps, .int place] (.d (.tup [.lst ((cntL ring steps place).map optD), .lst ((lasL ring steps place).map optD)])) := ⟨_, _, _, rfl, ⟨rs.lo, rs.hi⟩, p0, p1, rfl⟩
theorem ct_spread' {ring place : Int} {steps : List Int} (r1 : 1 ≤ ring) (r2 : ring ≤ 60) (p0 : 0 ≤ place) (p1 : place < ring) : C_spread [.int ring, .ints steps, .int place] (.d (.tup [.lst ((cntL ring steps place).map optD), .lst ((lasL ring steps place).map optD)])) := ⟨_, _, _, rfl, ⟨r1, r2⟩, p0, p1, rfl⟩
end

/-! ### how few steps come so much farther on -/
def dO (ring : Int) (steps : List Int) (z : Int) : Option Int := (cntL ring steps 0).getD (z % ring).toNat none
section
variable {ring : Int} {steps : List Int}
theorem dO_some (h1 : 1 ≤ ring) (hi : ring ≤ 60) {z c : Int} : dO ring steps z = some c ↔ ∃ k : Nat, c = k ∧ Rn ring steps k z = true ∧ ∀ m, m < k → Rn ring steps m z = false := by
  have m := mod_in h1 z
  have lc := cnt_len (steps := steps) h1 (Int.le_refl 0) (by omega : (0 : Int) < ring)
  have hl : (z % ring).toNat < (cntL ring steps 0).length := by omega
  have er : ∀ n, Rn ring steps n ((((z % ring).toNat : Nat) : Int) - 0) = Rn ring steps n z := fun n => Rn_congr n (by
    rw [show (((z % ring).toNat : Nat) : Int) - 0 = z % ring by omega, Int.emod_emod_of_dvd _ (Int.dvd_refl ring)])
  have e1 : ∀ k, IsD ring steps 0 k ((z % ring).toNat : Nat) ↔ Rn ring steps k z = true ∧ ∀ m, m < k → Rn ring steps m z = false := fun k => by
    unfold IsD
    rw [er]
    exact ⟨fun ⟨a, b⟩ => ⟨a, fun m hm => by rw [← er]; exact b m hm⟩, fun ⟨a, b⟩ => ⟨a, fun m hm => by rw [er]; exact b m hm⟩⟩
  unfold dO
  rw [List.getD_eq_getElem?_getD]
  constructor
  · intro h
    cases w : (cntL ring steps 0)[(z % ring).toNat]? with
    | none => rw [w] at h; cases h
    | some o =>
      rw [w] at h
      cases (show o = some c from h)
      obtain ⟨k, ek, d⟩ := cnt_some h1 (Int.le_refl 0) (by omega) w
      exact ⟨k, ek, (e1 k).mp d⟩
  · rintro ⟨k, rfl, hk⟩
    rw [cnt_isd h1 hi (Int.le_refl 0) (by omega) (by omega) ((e1 k).mpr hk)]; rfl
theorem dO_none (h1 : 1 ≤ ring) (hi : ring ≤ 60) {z : Int} : dO ring steps z = none ↔ ∀ n, Rn ring steps n z = false := by
  constructor
  · intro h n
    cases e : Rn ring steps n z with
    | false => rfl
    | true =>
      obtain ⟨k, _, d⟩ := IsD.of (place := 0) (q := z) (by rw [Int.sub_zero]; exact e)
      unfold IsD at d
      rw [Int.sub_zero] at d
      rw [(dO_some h1 hi).mpr ⟨k, rfl, d⟩] at h; cases h
  · intro h
    cases e : dO ring steps z with
    | none => rfl
    | some c =>
      obtain ⟨k, _, hk, _⟩ := (dO_some h1 hi).mp e
      rw [h k] at hk; cases hk
theorem dO_ext {ring' : Int} {steps' : List Int} (h1 : 1 ≤ ring) (hi : ring ≤ 60) (h1' : 1 ≤ ring') (hi' : ring' ≤ 60) {z z' : Int} (h : ∀ n, Rn ring steps n z = Rn ring' steps' n z') : dO ring steps z = dO ring' steps' z' := by
  cases e : dO ring steps z with
  | none => exact ((dO_none h1' hi').mpr fun n => by rw [← h]; exact (dO_none h1 hi).mp e n).symm
  | some c =>
    obtain ⟨k, ek, hk, hm⟩ := (dO_some h1 hi).mp e
    exact ((dO_some h1' hi').mpr ⟨k, ek, by rw [← h]; exact hk, fun m hm' => by rw [← h]; exact hm m hm'⟩).symm
theorem dO_mod (h1 : 1 ≤ ring) {z z' : Int} (h : z % ring = z' % ring) : dO ring steps z = dO ring steps z' := by unfold dO; rw [h]
theorem cnt_dO (h1 : 1 ≤ ring) (hi : ring ≤ 60) {place : Int} (p0 : 0 ≤ place) (p1 : place < ring) {q : Nat} (hq : q < ring.toNat) : (cntL ring steps place)[q]? = some (dO ring steps ((q : Int) - place)) := by
  have lc := cnt_len (steps := steps) h1 p0 p1
  have hl : q < (cntL ring steps place).length := by omega
  cases w : (cntL ring steps place)[q]'hl with
  | none =>
    have w' : (cntL ring steps place)[q]? = some none := by rw [List.getElem?_eq_getElem hl, w]
    rw [w', (dO_none h1 hi).mpr (cnt_none h1 hi p0 p1 hq w')]
  | some c =>
    have w' : (cntL ring steps place)[q]? = some (some c) := by rw [List.getElem?_eq_getElem hl, w]
    obtain ⟨k, ek, d⟩ := cnt_some h1 p0 p1 w'
    rw [w', (dO_some h1 hi).mpr ⟨k, ek, d⟩]
theorem cnt_range (h1 : 1 ≤ ring) (hi : ring ≤ 60) {place : Int} (p0 : 0 ≤ place) (p1 : place < ring) : cntL ring steps place = (List.range ring.toNat).map fun q => dO ring steps ((q : Nat) - place) := by
  have lc := cnt_len (steps := steps) h1 p0 p1
  refine List.ext_getElem? fun q => ?_
  by_cases c : q < ring.toNat
  · rw [cnt_dO h1 hi p0 p1 c, List.getElem?_map, List.getElem?_range c]; rfl
  · rw [List.getElem?_eq_none (by omega), List.getElem?_eq_none (by rw [List.length_map, List.length_range]; omega)]
theorem dO_nn (h1 : 1 ≤ ring) (hi : ring ≤ 60) {z c : Int} (h : dO ring steps z = some c) : 0 ≤ c ∧ c ≤ 60 := by
  have m := mod_in h1 z
  have lc := cnt_len (steps := steps) h1 (Int.le_refl 0) (by omega : (0 : Int) < ring)
  have e : (cntL ring steps 0)[(z % ring).toNat]? = some (some c) := by
    unfold dO at h
    rw [List.getD_eq_getElem?_getD, List.getElem?_eq_getElem (by omega)] at h
    rw [List.getElem?_eq_getElem (by omega)]; exact congrArg some h
  obtain ⟨k, ek, d⟩ := cnt_some h1 (Int.le_refl 0) (by omega) e
  have := isd_lt h1 hi (Int.le_refl 0) (by omega) d
  omega
/-- reach hangs on which steps there are -/
theorem Rn_mem {steps' : List Int} (h : ∀ s, s ∈ steps ↔ s ∈ steps') : ∀ (n : Nat) (z : Int), Rn ring steps n z = Rn ring steps' n z
  | 0, z => by rw [Rn_zero, Rn_zero]
  | n + 1, z => by
    rw [Rn_succ, Rn_succ, Bool.eq_iff_iff, List.any_eq_true, List.any_eq_true]
    exact ⟨fun ⟨s, a, b⟩ => ⟨s, (h s).mp a, by rw [← Rn_mem h n]; exact b⟩, fun ⟨s, a, b⟩ => ⟨s, (h s).mpr a, by rw [Rn_mem h n]; exact b⟩⟩
theorem Rn_sub {steps' : List Int} (h : ∀ s, s ∈ steps → s ∈ steps') : ∀ (n : Nat) (z : Int), Rn ring steps n z = true → Rn ring steps' n z = true
  | 0, z, e => by rw [Rn_zero] at e ⊢; exact e
  | n + 1, z, e => by
    rw [Rn_succ, List.any_eq_true] at e ⊢
    obtain ⟨s, a, b⟩ := e
    exact ⟨s, h s a, Rn_sub h n _ b⟩
/-- with a step of one every place is come to -/
theorem Rn_ones (h1 : 1 ≤ ring) (h : (1 : Int) ∈ steps) : ∀ n : Nat, Rn ring steps n (n : Int) = true
  | 0 => by rw [Rn_zero]; simp
  | n + 1 => by
    rw [Rn_succ, List.any_eq_true]
    exact ⟨1, h, by rw [show ((n + 1 : Nat) : Int) - 1 = (n : Int) by omega]; exact Rn_ones h1 h n⟩
theorem dO_ones (h1 : 1 ≤ ring) (hi : ring ≤ 60) (h : (1 : Int) ∈ steps) (z : Int) : dO ring steps z ≠ none := fun e => by
  have m := mod_in h1 z
  have := (dO_none h1 hi).mp e (z % ring).toNat
  rw [Rn_congr (z' := (((z % ring).toNat : Nat) : Int)) _ (by rw [show (((z % ring).toNat : Nat) : Int) = z % ring by omega, Int.emod_emod_of_dvd _ (Int.dvd_refl ring)]), Rn_ones h1 h] at this
  cases this
end
/-! ### how far the ring is -/
def maxI (l : List Int) : Int := l.foldl max 0
theorem maxI_fold : ∀ (l : List Int) (a : Int), a ≤ l.foldl max a ∧ (∀ x, x ∈ l → x ≤ l.foldl max a) ∧ (l.foldl max a = a ∨ l.foldl max a ∈ l)
  | [], a => ⟨Int.le_refl a, (fun x h => by cases h), .inl rfl⟩
  | b :: l, a => by
    obtain ⟨h1, h2, h3⟩ := maxI_fold l (max a b)
    have e : (b :: l).foldl max a = l.foldl max (max a b) := rfl
    rw [e]
    refine ⟨by omega, fun x hx => ?_, ?_⟩
    · rcases List.mem_cons.mp hx with rfl | hx
      · omega
      · exact h2 x hx
    · rcases h3 with h3 | h3
      · by_cases c : a ≤ b
        · exact .inr (by rw [h3, show max a b = b by omega]; exact List.mem_cons_self ..)
        · exact .inl (by rw [h3]; omega)
      · exact .inr (List.mem_cons_of_mem _ h3)
theorem maxI_uniq {l : List Int} {m : Int} (hn : ∀ x, x ∈ l → 0 ≤ x) (hm : m ∈ l) (h : ∀ x, x ∈ l → x ≤ m) : m = maxI l := by
  obtain ⟨h1, h2, h3⟩ := maxI_fold l 0
  have a := h2 m hm
  have b := hn m hm
  unfold maxI
  rcases h3 with e | e
  · rw [e] at a ⊢; omega
  · have := h _ e; omega
def farM (ring : Int) (steps : List Int) : Option Int := if none ∈ cntL ring steps 0 then none else some (maxI ((cntL ring steps 0).map (·.getD 0)))
section
variable {ring : Int} {steps : List Int}
theorem farM_congr {steps' : List Int} (h1 : 1 ≤ ring) (hi : ring ≤ 60) (h : ∀ z, dO ring steps z = dO ring steps' z) : farM ring steps = farM ring steps' := by
  have e : cntL ring steps 0 = cntL ring steps' 0 := by
    rw [cnt_range h1 hi (Int.le_refl 0) (by omega), cnt_range h1 hi (Int.le_refl 0) (by omega)]
    exact List.map_congr_left fun q _ => h _
  unfold farM
  rw [e]
theorem farM_mem {steps' : List Int} (h1 : 1 ≤ ring) (hi : ring ≤ 60) (h : ∀ s, s ∈ steps ↔ s ∈ steps') : farM ring steps = farM ring steps' :=
  farM_congr h1 hi fun z => dO_ext h1 hi h1 hi fun n => Rn_mem h n z
theorem farM_ne (h1 : 1 ≤ ring) (hi : ring ≤ 60) (h : ∀ z, dO ring steps z ≠ none) : farM ring steps = some (maxI ((cntL ring steps 0).map (·.getD 0))) := by
  unfold farM
  rw [if_neg fun m => ?_]
  rw [cnt_range h1 hi (Int.le_refl 0) (by omega)] at m
  obtain ⟨q, _, e⟩ := List.mem_map.mp m
  exact h _ e
theorem some_getD {l : List (Option Int)} (h : none ∉ l) : l.map optD = (l.map (·.getD 0)).map D.int := by
  rw [List.map_map]
  refine List.map_congr_left fun o ho => ?_
  cases o with
  | none => exact absurd ho h
  | some i => rfl
theorem cnt_nn (h1 : 1 ≤ ring) (hi : ring ≤ 60) : ∀ x, x ∈ (cntL ring steps 0).map (fun o : Option Int => o.getD 0) → 0 ≤ x ∧ x ≤ 60 := fun x hx => by
  obtain ⟨o, ho, rfl⟩ := List.mem_map.mp hx
  cases o with
  | none => exact ⟨Int.le_refl 0, by decide⟩
  | some c =>
    rw [cnt_range h1 hi (Int.le_refl 0) (by omega)] at ho
    obtain ⟨q, _, e⟩ := List.mem_map.mp ho
    exact dO_nn h1 hi e
theorem farM_le (h1 : 1 ≤ ring) (hi : ring ≤ 60) {c : Int} (h : farM ring steps = some c) : 0 ≤ c ∧ c ≤ 60 := by
  unfold farM at h
  split at h
  · cases h
  · cases h
    obtain ⟨a, b, d⟩ := maxI_fold ((cntL ring steps 0).map (·.getD 0)) 0
    refine ⟨a, ?_⟩
    rcases d with e | e
    · unfold maxI; omega
    · exact (cnt_nn h1 hi _ e).2
theorem inD_none : ∀ l : List (Option Int), inD .non (l.map optD) = decide (none ∈ l)
  | [] => rfl
  | o :: l => by
    have ih := inD_none l
    unfold inD inV at ih ⊢
    rw [List.map_cons, List.map_cons, List.any_cons, ih]
    cases o with
    | none => show (true || _) = _; simp
    | some i => show (false || _) = _; simp
theorem fl_opts {l : List (Option Int)} : ∀ x, x ∈ l.map optD → Fl x := fun x hx => by
  obtain ⟨o, _, rfl⟩ := List.mem_map.mp hx
  cases o with
  | none => exact .non
  | some i => exact .int
end
section
variable {X : Cx} {r : List Slot} {a : Expr} {p pos : Pos} {ns : List Int}
/-- max(xs) -/
theorem pb_maxL (B : Bi X.mg) (ha : PB X r a (.ints ns)) (hne : 0 < ns.length) (hn : ∀ x, x ∈ ns → 0 ≤ x) (hc : X.calm = true := by rfl) (hs : starEach [a] X.env = (false, eval a X.env) :: starEach [] X.env := by rfl) (hg : Gl X "max" := by rfl) (hp : (backTo pos (starEach [] X.env)).any (·.1) = false := by rfl) :
    PB X r (.Call (.Name "max" p) [a] [] pos) (.int (maxI ns)) :=
  pb_call1 (v := .int (maxI ns)) (pe_callB (cr_max hc) hg B.max (by decide +kernel) cA (he := hs) (hpl := hp)) (ab1 ha hs) (fun vs H Q k q => by
    cases k with
    | cons k1 k2 =>
      cases k2
      cases k1 with
      | lst h1 h2 =>
        rw [h2.ints_inv] at h1
        exact ⟨_, ns, rfl, SqL.of h1, hne, fun m hm h => by rw [maxI_uniq hn hm h]; exact q⟩) fun _ => .int _
end
section
variable {P : Program} {w : World} {K : PySem.W.Frag} {mg : Str → Option Value} {base : Heap}
def C_far_of : Ct := fun ds s => ∃ ring steps, ds = [.int ring, .ints steps] ∧ 1 ≤ ring ∧ ring ≤ 60 ∧ s = .d (optD (farM ring steps))
theorem h_far_of (B : Bi mg) (T : Df K mg "far_of" s_far_of ["ring", "steps"]) (Hspread : Has P w K mg base 1 "spread" [] C_spread) : Has P w K mg base 2 "far_of" [] C_far_of := by
  refine has_def T sc_far_of ?_ ?_
  · rintro ds s ⟨_, _, rfl, _⟩; rfl
  rintro ds s ⟨ring, steps, rfl, r1, r2, rfl⟩ f cdv A outer s0 H E hr
  have nd := sc_far_of.nd
  have lc := cnt_len (steps := steps) r1 (Int.le_refl 0) (by omega : (0 : Int) < ring)
  refine hs_asg (d := .lst ((cntL ring steps 0).map optD)) 2 nd (pp_ixT (pp_call Hspread hr (aq_cons (pp_v 0) (aq_cons (pp_v 1) (aq_cons pp_n aq_nil))) (ct_spread' r1 r2 (Int.le_refl 0) (by omega))) pp_n rfl) ?_
  by_cases c : none ∈ cntL ring steps 0
  · refine hs_ret (pp_if (k := true) (tq_is (tq_cmp (cr_inL .non fl_opts) pb_N (pb_v 2)) (by rw [inD_none, decide_eq_true c])) (fun _ => pp_N) fun h => by cases h) ?_
    unfold farM
    rw [if_pos c]; rfl
  · refine hs_ret (pp_if (k := false) (tq_is (tq_cmp (cr_inL .non fl_opts) pb_N (pb_v 2)) (by rw [inD_none, decide_eq_false c])) (fun h => by cases h) fun _ => pp_s (pb_maxL (ns := (cntL ring steps 0).map (·.getD 0)) B (pb_is (pb_v 2) (by rw [some_getD c])) (by rw [List.length_map]; omega) fun x hx => (cnt_nn r1 r2 x hx).1)) ?_
    unfold farM
    rw [if_neg c]; rfl
theorem ct_far_of {ring : Int} {steps : List Int} (r1 : 1 ≤ ring) (r2 : ring ≤ 60) : C_far_of [.int ring, .ints steps] (.d (optD (farM ring steps))) := ⟨_, _, rfl, r1, r2, rfl⟩
def C_far : Ct := fun ds s => ∃ ring steps, ds = [.int ring, .ints steps] ∧ RS ring steps ∧ s = .d (optD (farM ring steps))
theorem h_far (B : Bi mg) (T : Df K mg "far" s_far ["ring", "steps"]) (Hcheck_ring : Has P w K mg base 3 "check_ring" [.int 60] C_check_ring) (Hcheck_steps : Has P w K mg base 3 "check_steps" [.int 6] C_check_steps) (Hfar_of : Has P w K mg base 2 "far_of" [] C_far_of) : Has P w K mg base 4 "far" [] C_far := by
  refine has_def T sc_far ?_ ?_
  · rintro ds s ⟨_, _, rfl, _⟩; rfl
  rintro ds s ⟨ring, steps, rfl, rs, rfl⟩ f cdv A outer s0 H E hr
  refine hs_exp (pp_s (pb_call Hcheck_ring hr (ab_cons (pb_v 0) ab_nil) (ct_check_ring rs.lo rs.hi))) ?_
  refine hs_exp (pp_s (pb_call Hcheck_steps hr (ab_cons (pb_v 1) ab_nil) (ct_check_steps6 rs))) ?_
  exact hs_ret (pp_s (pb_call (Hfar_of.mono (by decide)) hr (ab_cons (pb_v 0) (ab_cons (pb_v 1) ab_nil)) (ct_far_of rs.lo rs.hi)) (opt_sc _)) rfl
theorem ct_far {ring : Int} {steps : List Int} (rs : RS ring steps) : C_far [.int ring, .ints steps] (.d (optD (farM ring steps))) := ⟨_, _, rfl, rs, rfl⟩
end

/-! ### ways.py: nearest -/
section
variable {P : Program} {w : World} {K : PySem.W.Frag} {mg : Str → Option Value} {base : Heap}
def C_nearest : Ct := fun ds s => ∃ ring steps place, ds = [.int ring, .ints steps, .int place] ∧ RS ring steps ∧ 0 ≤ place ∧ place < ring ∧ s = .d (.lst ((cntL ring steps place).map optD))
theorem h_nearest (B : Bi mg) (T : Df K mg "nearest" s_nearest ["ring", "steps", "place"]) (Hcheck_ring : Has P w K mg base 3 "check_ring" [.int 60] C_check_ring) (Hcheck_steps : Has P w K mg base 3 "check_steps" [.int 6] C_check_steps) (Hcheck_place : Has P w K mg base 3 "check_place" [] C_check_place) (Hspread : Has P w K mg base 1 "spread" [] C_spread) : Has P w K mg base 4 "nearest" [] C_nearest := by
  refine has_def T sc_nearest ?_ ?_
  · rintro ds s ⟨_, _, _, rfl, _⟩; rfl
  rintro ds s ⟨ring, steps, place, rfl, rs, p0, p1, rfl⟩ f cdv A outer s0 H E hr
  refine hs_exp (pp_s (pb_call Hcheck_ring hr (ab_cons (pb_v 0) ab_nil) (ct_check_ring rs.lo rs.hi))) ?_
  refine hs_exp (pp_s (pb_call Hcheck_steps hr (ab_cons (pb_v 1) ab_nil) (ct_check_steps6 rs))) ?_
  refine hs_exp (pp_s (pb_call Hcheck_place hr (ab_cons (pb_v 0) (ab_cons (pb_v 2) ab_nil)) (ct_check_place p0 p1))) ?_
  exact hs_ret (pp_ixT (pp_call (Hspread.mono (by decide)) hr (aq_cons (pp_v 0) (aq_cons (pp_v 1) (aq_cons (pp_v 2) aq_nil))) (ct_spread rs p0 p1)) pp_n rfl) rfl
theorem ct_nearest {ring place : Int} {steps : List Int} (rs : RS ring steps) (p0 : 0 ≤ place) (p1 : place < ring) : C_nearest [.int ring, .ints steps, .int place] (.d (.lst ((cntL ring steps place).map optD))) := ⟨_, _, _, rfl, rs, p0, p1, rfl⟩
end

/-! ### common, common_of, apart -/
theorem gcd_step {a b : Int} (ha : 0 ≤ a) (hb : 0 < b) : Int.gcd b (a % b) = Int.gcd a b := by
  have e : (a % b).natAbs = a.natAbs % b.natAbs := by
    obtain ⟨n, rfl⟩ := Int.eq_ofNat_of_zero_le ha
    obtain ⟨m, rfl⟩ := Int.eq_ofNat_of_zero_le (Int.le_of_lt hb)
    rw [← Int.natCast_emod, Int.natAbs_natCast, Int.natAbs_natCast, Int.natAbs_natCast]
  unfold Int.gcd
  rw [e, Nat.gcd_comm, ← Nat.gcd_rec, Nat.gcd_comm]
def gcdL (l : List Int) : Int := l.foldl (fun g n => ((Int.gcd g n : Nat) : Int)) 0
section
variable {P : Program} {w : World} {K : PySem.W.Frag} {mg : Str → Option Value} {base : Heap}
def C_common : Ct := fun ds s => ∃ a b, ds = [.int a, .int b] ∧ 0 ≤ a ∧ 0 ≤ b ∧ s = .d (.int ((Int.gcd a b : Nat) : Int))
theorem h_common (B : Bi mg) (T : Df K mg "common" s_common ["one", "other"]) : Has P w K mg base 1 "common" [] C_common := by
  refine has_def T sc_common ?_ ?_
  · rintro ds s ⟨_, _, rfl, _⟩; rfl
  rintro ds s ⟨a, b, rfl, ha, hb, rfl⟩ f cdv A outer s0 H E hr
  have nd := sc_common.nd
  refine hs_cons (M := fun r => ∃ z, r = [.i ((Int.gcd a b : Nat) : Int), .i z])
    (s1_while (Z := Int × Int) (fun z => [.i z.1, .i z.2]) (fun z => z.2.toNat) (a, b) (fun z => decide (0 < z.2)) (fun z => 0 ≤ z.1 ∧ 0 ≤ z.2 ∧ Int.gcd z.1 z.2 = Int.gcd a b) Le.refl ⟨ha, hb, rfl⟩ (fun z hz => tq_cmp cr_gt (pb_v 1) pb_n) (fun z hz hk => ?_) (fun z hz hk => ?_)) ?_
  · obtain ⟨x, y⟩ := z
    have hx : 0 ≤ x := hz.1
    have hy : 0 < y := of_decide_eq_true hk
    have hg : Int.gcd x y = Int.gcd a b := hz.2.2
    have m1 := Int.emod_nonneg x (by omega : y ≠ 0)
    have m2 := Int.emod_lt_of_pos x hy
    refine hs_par2 0 1 nd (as_d (pp_v 1) (as_d (pp_s (pb_mod (pb_v 0) (pb_v 1) hy)) as_nil)) (hs_nil ⟨(y, x % y), ⟨by show 0 ≤ y; omega, m1, by rw [gcd_step hx hy]; exact hg⟩, by show (x % y).toNat < y.toNat; omega, Le.refl⟩)
  · obtain ⟨x, y⟩ := z
    have hy : ¬ 0 < y := of_decide_eq_false hk
    have hy0 : 0 ≤ y := hz.2.1
    have e : y = 0 := by omega
    subst e
    have hg : Int.gcd x 0 = Int.gcd a b := hz.2.2
    have hx : 0 ≤ x := hz.1
    refine ⟨0, ?_⟩
    have ex : x = ((Int.gcd a b : Nat) : Int) := by rw [← hg, Int.gcd_zero]; omega
    rw [← ex]
  · rintro _ ⟨z, rfl⟩
    exact hs_ret (pp_v 0) rfl
theorem ct_common {a b : Int} (ha : 0 ≤ a) (hb : 0 ≤ b) : C_common [.int a, .int b] (.d (.int ((Int.gcd a b : Nat) : Int))) := ⟨_, _, rfl, ha, hb, rfl⟩
def C_common_of : Ct := fun ds s => ∃ ns, ds = [.ints ns] ∧ (∀ n, n ∈ ns → 0 ≤ n) ∧ s = .d (.int (gcdL ns))
theorem h_common_of (B : Bi mg) (T : Df K mg "common_of" s_common_of ["numbers"]) (Hcommon : Has P w K mg base 1 "common" [] C_common) : Has P w K mg base 2 "common_of" [] C_common_of := by
  refine has_def T sc_common_of ?_ ?_
  · rintro ds s ⟨_, rfl, _⟩; rfl
  rintro ds s ⟨ns, rfl, hn, rfl⟩ f cdv A outer s0 H E hr
  have nd := sc_common_of.nd
  have nn : ∀ (l : List Int), 0 ≤ gcdL l := fun l => by
    rcases List.eq_nil_or_concat l with e | ⟨a, b, e⟩
    · rw [e]; exact Int.le_refl 0
    · rw [e, gcdL, List.concat_eq_append, List.foldl_append]; exact Int.natCast_nonneg _
  refine hs_asg 1 nd pp_n ?_
  refine hs_cons (M := fun r => r = [.is ns, .i (gcdL ns), .un])
    (s1_forI 2 nd (fun k => [.is ns, .i (gcdL (ns.take k)), .un]) (pp_v 0) Le.refl (fun k z hz => ?_) (by rw [List.take_length])) ?_
  · refine hs_asg 1 nd (pp_is (pp_s (pb_call Hcommon hr (ab_cons (pb_v 1) (ab_cons (pb_v 2) ab_nil)) (ct_common (nn _) (hn z (List.mem_of_getElem? hz))))) (d1 := .int (gcdL (ns.take (k + 1)))) ?_) (hs_nil (.same (.same (.drop .nil))))
    rw [List.take_add_one, hz, gcdL, gcdL, List.foldl_append]; rfl
  · rintro _ rfl
    exact hs_ret (pp_v 1) rfl
theorem ct_common_of {ns : List Int} (h : ∀ n, n ∈ ns → 0 ≤ n) : C_common_of [.ints ns] (.d (.int (gcdL ns))) := ⟨_, rfl, h, rfl⟩
end

/-! ### answers.py: Come, Never; ways.py: told -/
def okAt (steps : List Int) (a : Int) : Prop := 0 ≤ a ∧ a < (steps.length : Int)
instance (steps : List Int) (a : Int) : Decidable (okAt steps a) := inferInstanceAs (Decidable (_ ∧ _))
def endM (ring : Int) (steps : List Int) : Int → List Int → Int
  | place, [] => place
  | place, a :: w => if okAt steps a then endM ring steps ((place + steps.getD a.toNat 0) % ring) w else -1
theorem endM_bad {ring : Int} {steps : List Int} : ∀ {w : List Int} {place : Int}, (∃ a, a ∈ w ∧ ¬ okAt steps a) → endM ring steps place w = -1
  | [], _, ⟨a, h, _⟩ => by cases h
  | b :: w, place, ⟨a, h, n⟩ => by
    unfold endM
    by_cases c : okAt steps b
    · rw [if_pos c]
      refine endM_bad ⟨a, ?_, n⟩
      rcases List.mem_cons.mp h with e | e
      · subst e; exact absurd c n
      · exact e
    · rw [if_neg c]
theorem endM_snoc {ring : Int} {steps : List Int} {z : Int} (hz : okAt steps z) : ∀ {w : List Int} {place : Int}, (∀ a, a ∈ w → okAt steps a) → endM ring steps place (w ++ [z]) = (endM ring steps place w + steps.getD z.toNat 0) % ring
  | [], place, _ => by
    show (if okAt steps z then _ else _) = _
    rw [if_pos hz]; rfl
  | b :: w, place, h => by
    rw [List.cons_append, endM, endM, if_pos (h b (List.mem_cons_self ..)), if_pos (h b (List.mem_cons_self ..))]
    exact endM_snoc hz fun a ha => h a (List.mem_cons_of_mem _ ha)
def hOk (ring : Int) (steps hs : List Int) (p : Nat) : Bool := steps.all fun s => decide (hs.getD (((p : Int) + s) % ring).toNat 0 ≤ hs.getD p 0 + 1)
def comeM (ring : Int) (steps : List Int) (one other : Int) (way hs : List Int) : Bool :=
  decide ((hs.length : Int) = ring) && (decide (endM ring steps one way = other) && (decide (hs.getD one.toNat 0 = 0) && (decide (hs.getD other.toNat 0 = (way.length : Int)) && (List.range ring.toNat).all fun p => hOk ring steps hs p)))
def neverM (ring : Int) (steps : List Int) (one other part : Int) : Bool := decide (2 ≤ part) && (!decide ((other - one) % part = 0) && (steps ++ [ring]).all fun n => decide (n % part = 0))
theorem come_no1 {ring one other : Int} {steps way hs : List Int} (h : ¬ ((hs.length : Int) = ring ∧ endM ring steps one way = other)) : comeM ring steps one other way hs = false := by
  unfold comeM
  by_cases a : (hs.length : Int) = ring
  · have b : ¬ endM ring steps one way = other := fun z => h ⟨a, z⟩
    rw [decide_eq_false b]; simp
  · rw [decide_eq_false a]; rfl
theorem come_no2 {ring one other : Int} {steps way hs : List Int} (h : ¬ (hs.getD one.toNat 0 = 0 ∧ hs.getD other.toNat 0 = (way.length : Int))) : comeM ring steps one other way hs = false := by
  unfold comeM
  by_cases a : hs.getD one.toNat 0 = 0
  · have b : ¬ hs.getD other.toNat 0 = (way.length : Int) := fun z => h ⟨a, z⟩
    rw [decide_eq_false b]; simp
  · rw [decide_eq_false a]; simp
theorem come_no3 {ring one other : Int} {steps way hs : List Int} {p : Nat} (hp : p < ring.toNat) (h : hOk ring steps hs p = false) : comeM ring steps one other way hs = false := by
  unfold comeM
  have : ((List.range ring.toNat).all fun p => hOk ring steps hs p) = false := by
    rw [List.all_eq_false]
    exact ⟨p, List.mem_range.mpr hp, by rw [h]; exact fun z => by cases z⟩
  rw [this]; simp
theorem come_yes {ring one other : Int} {steps way hs : List Int} (h1 : (hs.length : Int) = ring ∧ endM ring steps one way = other) (h2 : hs.getD one.toNat 0 = 0 ∧ hs.getD other.toNat 0 = (way.length : Int)) (h3 : ∀ p, p < ring.toNat → hOk ring steps hs p = true) : comeM ring steps one other way hs = true := by
  unfold comeM
  have : ((List.range ring.toNat).all fun p => hOk ring steps hs p) = true := List.all_eq_true.mpr fun p hp => h3 p (List.mem_range.mp hp)
  rw [decide_eq_true h1.1, decide_eq_true h1.2, decide_eq_true h2.1, decide_eq_true h2.2, this]; rfl
theorem all_no {steps hs : List Int} {ring : Int} {p : Nat} : (steps.any fun z => decide (hs.getD (((p : Int) + z) % ring).toNat 0 > hs.getD p 0 + 1)) = !hOk ring steps hs p := by
  unfold hOk
  induction steps with
  | nil => rfl
  | cons a l ih =>
    rw [List.any_cons, List.all_cons, ih, Bool.not_and]
    congr 1
    by_cases c : hs.getD (((p : Int) + a) % ring).toNat 0 ≤ hs.getD p 0 + 1
    · rw [decide_eq_true c, decide_eq_false (by omega)]; rfl
    · rw [decide_eq_false c, decide_eq_true (by omega)]; rfl
/-! the way back -/
def laM (las : List (Option Int)) (q : Int) : Int := (las.getD q.toNat none).getD 0
def wbL (ring : Int) (steps : List Int) (las : List (Option Int)) : Nat → Int → List Int
  | 0, _ => []
  | j + 1, q => laM las q :: wbL ring steps las j ((q - steps.getD (laM las q).toNat 0) % ring)
theorem wbL_len {ring : Int} {steps : List Int} {las : List (Option Int)} : ∀ (j : Nat) (q : Int), (wbL ring steps las j q).length = j
  | 0, _ => rfl
  | j + 1, q => congrArg Nat.succ (wbL_len j _)
def wayM (ring : Int) (steps : List Int) (one : Int) (k : Nat) (other : Int) : List Int := (wbL ring steps (lasL ring steps one) k other).reverse
def hgtM (ring : Int) (steps : List Int) (one : Int) : List Int := (cntL ring steps one).map (·.getD 0)
theorem cnt_zero {ring : Int} {steps : List Int} {one : Int} (h1 : 1 ≤ ring) (hi : ring ≤ 60) (p0 : 0 ≤ one) (p1 : one < ring) {q : Int} (q0 : 0 ≤ q) (q1 : q < ring) : (cntL ring steps one)[q.toNat]? = some (some 0) ↔ q = one := by
  have zero : IsD ring steps one 0 q ↔ q = one := by
    unfold IsD
    rw [Rn_zero, decide_eq_true_iff]
    refine ⟨fun ⟨e, _⟩ => ?_, fun e => ⟨by rw [e]; simp, fun m hm => by omega⟩⟩
    have e2 := Int.emod_eq_emod_iff_emod_sub_eq_zero.mpr e
    rw [Int.emod_eq_of_lt q0 q1, Int.emod_eq_of_lt p0 p1] at e2
    exact e2
  have eq : ((q.toNat : Nat) : Int) = q := by omega
  constructor
  · intro h
    obtain ⟨k, ek, d⟩ := cnt_some h1 p0 p1 h
    have : k = 0 := by omega
    subst this
    rw [eq] at d
    exact zero.mp d
  · intro h
    exact cnt_isd h1 hi p0 p1 (k := 0) (by omega) (by rw [eq]; exact zero.mpr h)
/-- one step back -/
theorem back_ok {ring : Int} {steps : List Int} {one : Int} (h1 : 1 ≤ ring) (p0 : 0 ≤ one) (p1 : one < ring) {q : Int} {j : Nat} (q0 : 0 ≤ q) (q1 : q < ring) (h : (cntL ring steps one)[q.toNat]? = some (some ((j + 1 : Nat) : Int))) :
    (lasL ring steps one).getD q.toNat none = some (laM (lasL ring steps one) q) ∧ okAt steps (laM (lasL ring steps one) q) ∧ (cntL ring steps one)[((q - steps.getD (laM (lasL ring steps one) q).toNat 0) % ring).toNat]? = some (some (j : Int)) := by
  obtain ⟨a, s, e1, e2, e3⟩ := las_ok (k := j) h1 p0 p1 (q := q.toNat) (by rw [h]; congr 2)
  have el : (lasL ring steps one).getD q.toNat none = some (a : Int) := by rw [List.getD_eq_getElem?_getD, e1]; rfl
  have ea : laM (lasL ring steps one) q = (a : Int) := by unfold laM; rw [el]; rfl
  have hl := (List.getElem?_eq_some_iff.mp e2).1
  rw [ea]
  refine ⟨el, ⟨by omega, by omega⟩, ?_⟩
  have es : steps.getD ((a : Int)).toNat 0 = s := by rw [Int.toNat_natCast, List.getD_eq_getElem?_getD, e2]; rfl
  rw [es]
  rw [show ((q.toNat : Nat) : Int) = q by omega] at e3
  exact e3
theorem wb_end {ring : Int} {steps : List Int} {one : Int} (h1 : 1 ≤ ring) (hi : ring ≤ 60) (p0 : 0 ≤ one) (p1 : one < ring) : ∀ (j : Nat) {q : Int}, 0 ≤ q → q < ring → (cntL ring steps one)[q.toNat]? = some (some (j : Int)) →
    (∀ a, a ∈ (wbL ring steps (lasL ring steps one) j q).reverse → okAt steps a) ∧ endM ring steps one (wbL ring steps (lasL ring steps one) j q).reverse = q
  | 0, q, q0, q1, h => ⟨fun a ha => by simp [wbL] at ha, ((cnt_zero h1 hi p0 p1 q0 q1).mp h).symm⟩
  | j + 1, q, q0, q1, h => by
    obtain ⟨b1, b2, b3⟩ := back_ok h1 p0 p1 q0 q1 h
    obtain ⟨t0, t1⟩ := mod_in h1 (q - steps.getD (laM (lasL ring steps one) q).toNat 0)
    obtain ⟨i1, i2⟩ := wb_end h1 hi p0 p1 j t0 t1 b3
    rw [wbL, List.reverse_cons]
    refine ⟨fun a ha => ?_, ?_⟩
    · rcases List.mem_append.mp ha with z | z
      · exact i1 a z
      · rw [List.mem_singleton.mp z]; exact b2
    · rw [endM_snoc b2 i1, i2, Int.add_emod, Int.emod_emod_of_dvd _ (Int.dvd_refl ring), ← Int.add_emod, Int.sub_add_cancel, Int.emod_eq_of_lt q0 q1]
section
variable {P : Program} {w : World} {K : PySem.W.Frag} {mg : Str → Option Value} {base : Heap}
def C_end_of : Ct := fun ds s => ∃ ring steps place way, ds = [.int ring, .ints steps, .int place, .ints way] ∧ RS ring steps ∧ s = .d (.int (endM ring steps place way))
theorem h_end_of (B : Bi mg) (T : Df K mg "end_of" s_end_of ["ring", "steps", "place", "way"]) : Has P w K mg base 1 "end_of" [] C_end_of := by
  refine has_def T sc_end_of ?_ ?_
  · rintro ds s ⟨_, _, _, _, rfl, _⟩; rfl
  rintro ds s ⟨ring, steps, place, way, rfl, rs, rfl⟩ f cdv A outer s0 H E hr
  have nd := sc_end_of.nd
  have r1 := rs.lo
  refine hs_forL (r1 := [ow (∀ a, a ∈ way → okAt steps a) (.i ring), .is steps, .i (endM ring steps place way), .is way, .un])
    (s1_forI 4 nd (fun k => [ow (∀ a, a ∈ way.take k → okAt steps a) (.i ring), .is steps, .i (endM ring steps place (way.take k)), .is way, .un]) (pp_v 3) ?_ (fun k z hz => ?_) (by rw [List.take_length]; exact Le.refl)) ?_
  · rw [ow_yes (by intro a ha; simp at ha)]; exact Le.refl
  · refine hs_ow fun hp => ?_
    have et : way.take (k + 1) = way.take k ++ [z] := by rw [List.take_add_one, hz]; rfl
    by_cases c : okAt steps z
    · refine hs_no (tq_is (tq_not (tq_lelt pb_n (pb_v 4) (pb_len B (pb_v 1)))) ?_) ?_
      · rw [List.length_map, decide_eq_true c.1, decide_eq_true c.2]; rfl
      refine hs_asg 2 nd (pp_s (pb_mod (pb_add (pb_v 2) (pb_ix (pb_v 1) (pb_v 4) (at_intD c.1 c.2))) (pb_v 0) (by omega))) (hs_nil ?_)
      rw [et, ow_yes (by
        intro a ha
        rcases List.mem_append.mp ha with w | w
        · exact hp a w
        · rw [List.mem_singleton.mp w]; exact c), endM_snoc c hp]
      exact .same (.same (.same (.same (.drop .nil))))
    · refine hs_cons (M := fun _ => False) (s1_if (k := true) (tq_is (tq_not (tq_lelt pb_n (pb_v 4) (pb_len B (pb_v 1)))) ?_) (fun _ => hs_ret (pp_s (pb_neg pb_n)) ?_) fun h => by cases h) fun _ h => h.elim
      · rw [List.length_map]
        by_cases a1 : 0 ≤ z
        · have a2 : ¬ z < (steps.length : Int) := fun w => c ⟨a1, w⟩
          rw [decide_eq_false a2]; simp
        · rw [decide_eq_false a1]; rfl
      · show Slot.d (.int _) = .d (.int _)
        rw [endM_bad ⟨z, List.mem_of_getElem? hz, c⟩]
  · exact hs_ow fun hp => hs_ret (pp_v 2) rfl
theorem ct_end_of {ring place : Int} {steps way : List Int} (rs : RS ring steps) : C_end_of [.int ring, .ints steps, .int place, .ints way] (.d (.int (endM ring steps place way))) := ⟨_, _, _, _, rfl, rs, rfl⟩

abbrev comeD (CC : Addr) (way hs : List Int) : D := .ins CC ["way", "heights"] [.ints way, .ints hs]
abbrev comeF (way hs : List Int) : List (Str × Fld) := [("way", .o (way.map .int)), ("heights", .o (hs.map .int))]
theorem sc_come {way hs : List Int} : ∀ z, z ∈ comeF way hs → ScF z.2 := fun z hz => by
  rcases List.mem_cons.mp hz with rfl | hz
  · exact sc_ints
  · rw [List.mem_singleton.mp hz]; exact sc_ints
def C_Come_init : CtL := fun fs ds s fs' => ∃ way hs : List Int, fs = [] ∧ ds = [.ints way, .ints hs] ∧ s = .d .non ∧ fs' = comeF way hs
theorem h_Come___init__ {CC : Addr} (B : Bi mg) (DCome : Di K mg "Come" "Come.__init__" CC s_Come___init__ ["self", "way", "heights"] ["way", "heights"]) : HasN P w K mg base 1 "Come" CC C_Come_init := by
  refine has_init DCome sc_Come___init__ ?_ ?_
  · rintro fs ds s fs' ⟨_, _, _, rfl, _⟩; rfl
  rintro fs ds s fs' ⟨way, hs, rfl, rfl, rfl, rfl⟩ p f cdv A outer s0 H E hr
  refine hs_setO 0 (po_list B (pp_v 1)) DCome.cl (DCome.na _ (by decide)) ?_
  refine hs_setO (fs := [("way", .o (way.map .int))]) 0 (po_list B (pp_v 2)) DCome.cl (DCome.na _ (by decide)) ?_ (hl := (by decide : 1 < 1000))
  exact hs_nil ⟨rfl, rfl⟩
theorem ct_Come_init {way hs : List Int} : C_Come_init [] [.ints way, .ints hs] (.d .non) (comeF way hs) := ⟨_, _, rfl, rfl, rfl, rfl⟩
def C_Come_shows (CC : Addr) : Ct := fun ds s => ∃ ring steps one other way hs, ds = [comeD CC way hs, .int ring, .ints steps, .int one, .int other] ∧ RS ring steps ∧ 0 ≤ one ∧ one < ring ∧ 0 ≤ other ∧ other < ring ∧ s = .d (.bl (comeM ring steps one other way hs))
set_option maxHeartbeats 4000000 in
theorem h_Come_shows {CC : Addr} (B : Bi mg) (T : Dm K CC "shows" "Come.shows" s_Come_shows ["self", "ring", "steps", "one", "other"]) (DCome : Di K mg "Come" "Come.__init__" CC s_Come___init__ ["self", "way", "heights"] ["way", "heights"]) (Hend_of : Has P w K mg base 1 "end_of" [] C_end_of) : HasM P w K mg base 2 CC "shows" (C_Come_shows CC) := by
  refine has_meth T sc_Come_shows ?_ ?_
  · rintro ds s ⟨_, _, _, _, _, _, rfl, _⟩; rfl
  rintro ds s ⟨ring, steps, one, other, way, hs, rfl, rs, o0, o1, t0, t1, rfl⟩ f cdv A outer s0 H E hr
  have nd := sc_Come_shows.nd
  have r1 := rs.lo
  have l6 := rs.l6
  have cl := DCome.cl
  have nw : NoAttr K CC "way" := DCome.na _ (by decide)
  have nh : NoAttr K CC "heights" := DCome.na _ (by decide)
  by_cases c1 : (hs.length : Int) = ring ∧ endM ring steps one way = other
  rotate_left
  · refine hs_cons (M := fun _ => False) (s1_if (k := true) (tq_is (tq_w (wq_or (tq_cmp cr_ne (pb_len B (pb_fld (d := .ints hs) (pb_v 0) cl nh)) (pb_v 1)) fun _ => (wq_or1 (tq_cmp cr_ne (pb_call Hend_of hr (ab_cons (pb_v 1) (ab_cons (pb_v 2) (ab_cons (pb_v 3) (ab_cons (pb_fld (d := .ints way) (pb_v 0) cl nw) ab_nil)))) (ct_end_of rs)) (pb_v 4))))) ?_) (fun _ => hs_ret pp_b ?_) fun h => by cases h) fun _ h => h.elim
    · rw [List.length_map]
      by_cases a : (hs.length : Int) = ring
      · have b : ¬ endM ring steps one way = other := fun z => c1 ⟨a, z⟩
        rw [decide_eq_false b]; simp
      · rw [decide_eq_false a]; rfl
    · rw [come_no1 c1]
  refine hs_no (tq_is (tq_w (wq_or (tq_cmp cr_ne (pb_len B (pb_fld (d := .ints hs) (pb_v 0) cl nh)) (pb_v 1)) fun _ => (wq_or1 (tq_cmp cr_ne (pb_call Hend_of hr (ab_cons (pb_v 1) (ab_cons (pb_v 2) (ab_cons (pb_v 3) (ab_cons (pb_fld (d := .ints way) (pb_v 0) cl nw) ab_nil)))) (ct_end_of rs)) (pb_v 4))))) ?_) ?_
  · rw [List.length_map, decide_eq_true c1.1, decide_eq_true c1.2]; rfl
  by_cases c2 : hs.getD one.toNat 0 = 0 ∧ hs.getD other.toNat 0 = (way.length : Int)
  rotate_left
  · refine hs_cons (M := fun _ => False) (s1_if (k := true) (tq_is (tq_w (wq_or (tq_cmp cr_ne (pb_ix (pb_fld (d := .ints hs) (pb_v 0) cl nh) (pb_v 3) (at_intD o0 (by omega))) pb_n) fun _ => (wq_or1 (tq_cmp cr_ne (pb_ix (pb_fld (d := .ints hs) (pb_v 0) cl nh) (pb_v 4) (at_intD t0 (by omega))) (pb_len B (pb_fld (d := .ints way) (pb_v 0) cl nw)))))) ?_) (fun _ => hs_ret pp_b ?_) fun h => by cases h) fun _ h => h.elim
    · rw [List.length_map]
      by_cases a : hs.getD one.toNat 0 = 0
      · have b : ¬ hs.getD other.toNat 0 = (way.length : Int) := fun z => c2 ⟨a, z⟩
        rw [decide_eq_false b]; simp
      · rw [decide_eq_false a]; rfl
    · rw [come_no2 c2]
  refine hs_no (tq_is (tq_w (wq_or (tq_cmp cr_ne (pb_ix (pb_fld (d := .ints hs) (pb_v 0) cl nh) (pb_v 3) (at_intD o0 (by omega))) pb_n) fun _ => (wq_or1 (tq_cmp cr_ne (pb_ix (pb_fld (d := .ints hs) (pb_v 0) cl nh) (pb_v 4) (at_intD t0 (by omega))) (pb_len B (pb_fld (d := .ints way) (pb_v 0) cl nw)))))) ?_) ?_
  · rw [List.length_map, decide_eq_true c2.1, decide_eq_true c2.2]; rfl
  refine hs_forL (r1 := [ow (∀ p, p < hs.length → hOk ring steps hs p = true) (.d (comeD CC way hs)), .i ring, .is steps, .i one, .i other, .un, .un, .un])
    (s1_forEI B 5 6 nd (fun k => [ow (∀ p, p < k → hOk ring steps hs p = true) (.d (comeD CC way hs)), .i ring, .is steps, .i one, .i other, .un, .un, .un]) (pp_fld (d := .ints hs) (pp_v 0) cl nh) ?_ (fun k z hz => ?_) Le.refl) ?_
  · rw [ow_yes (by intro p hp; omega)]; exact Le.refl
  · refine hs_ow fun hp => ?_
    have hk : k < hs.length := (List.getElem?_eq_some_iff.mp hz).1
    have ez : z = hs.getD k 0 := by rw [List.getD_eq_getElem?_getD, hz]; rfl
    subst ez
    cases c : hOk ring steps hs k with
    | true =>
      refine hs_no (tq_is (tq_v (pb_anyF (f := fun s => decide (hs.getD (((k : Int) + s) % ring).toNat 0 > hs.getD k 0 + 1)) B (pb_o (po_I0 7 nd (fun s => .bl (decide (hs.getD (((k : Int) + s) % ring).toNat 0 > hs.getD k 0 + 1))) (pb_v 2) (by rw [sizeLine_eq]; omega) fun s hs s1 H1 C1 cl1 fp1 => ?_)))) ?_) (hs_nil ?_)
      · have m := mod_in r1 ((k : Int) + s)
        exact pp_s (pb_cmp cr_gt (pb_ix (pb_fld (d := .ints _) (pb_v 0) cl nh) (pb_mod (pb_add (pb_v 5) (pb_v 7)) (pb_v 1) (by omega)) (at_intD m.1 (by omega))) (pb_add (pb_v 6) pb_n))
      · rw [all_no, c]; rfl
      · rw [ow_yes (by
          intro p hlt
          by_cases e : p = k
          · rw [e]; exact c
          · exact hp p (by omega))]
        exact .same (.same (.same (.same (.same (.drop (.drop (.same .nil)))))))
    | false =>
      refine hs_cons (M := fun _ => False) (s1_if (k := true) (tq_is (tq_v (pb_anyF (f := fun s => decide (hs.getD (((k : Int) + s) % ring).toNat 0 > hs.getD k 0 + 1)) B (pb_o (po_I0 7 nd (fun s => .bl (decide (hs.getD (((k : Int) + s) % ring).toNat 0 > hs.getD k 0 + 1))) (pb_v 2) (by rw [sizeLine_eq]; omega) fun s hs s1 H1 C1 cl1 fp1 => ?_)))) ?_) (fun _ => hs_ret pp_b ?_) fun h => by cases h) fun _ h => h.elim
      · have m := mod_in r1 ((k : Int) + s)
        exact pp_s (pb_cmp cr_gt (pb_ix (pb_fld (d := .ints _) (pb_v 0) cl nh) (pb_mod (pb_add (pb_v 5) (pb_v 7)) (pb_v 1) (by omega)) (at_intD m.1 (by omega))) (pb_add (pb_v 6) pb_n))
      · rw [all_no, c]; rfl
      · rw [come_no3 (p := k) (by omega) c]
  · refine hs_ow fun hp => hs_ret pp_b ?_
    rw [come_yes c1 c2 fun p hlt => hp p (by omega)]
theorem ct_Come_shows {CC : Addr} {ring one other : Int} {steps way hs : List Int} (rs : RS ring steps) (o0 : 0 ≤ one) (o1 : one < ring) (t0 : 0 ≤ other) (t1 : other < ring) : C_Come_shows CC [comeD CC way hs, .int ring, .ints steps, .int one, .int other] (.d (.bl (comeM ring steps one other way hs))) := ⟨_, _, _, _, _, _, rfl, rs, o0, o1, t0, t1, rfl⟩
theorem never_no {ring one other part : Int} {steps : List Int} (h : part < 2 ∨ (other - one) % part = 0) : neverM ring steps one other part = false := by
  unfold neverM
  rcases h with h | h
  · rw [decide_eq_false (by omega)]; rfl
  · rw [decide_eq_true h]; simp
theorem never_go {ring one other part : Int} {steps : List Int} (h : ¬ (part < 2 ∨ (other - one) % part = 0)) : neverM ring steps one other part = (steps ++ [ring]).all fun n => decide (n % part = 0) := by
  unfold neverM
  rw [decide_eq_true (by omega), decide_eq_false fun z => h (.inr z)]; rfl
theorem cat_ring {steps : List Int} {ring : Int} : steps.map D.int ++ [D.int ring] = (steps ++ [ring]).map D.int := by rw [List.map_append]; rfl
theorem sc_cat {steps : List Int} {ring : Int} : ∀ d, d ∈ steps.map D.int ++ [D.int ring] → Sc d := by rw [cat_ring]; exact sc_ints
def C_Never_shows (CN : Addr) : Ct := fun ds s => ∃ ring steps one other part, ds = [.ins CN ["part"] [.int part], .int ring, .ints steps, .int one, .int other] ∧ RS ring steps ∧ s = .d (.bl (neverM ring steps one other part))
theorem h_Never_shows {CN : Addr} (B : Bi mg) (T : Dm K CN "shows" "Never.shows" s_Never_shows ["self", "ring", "steps", "one", "other"]) (DNever : Di K mg "Never" "Never.__init__" CN s_Never___init__ ["self", "part"] ["part"]) : HasM P w K mg base 1 CN "shows" (C_Never_shows CN) := by
  refine has_meth T sc_Never_shows ?_ ?_
  · rintro ds s ⟨_, _, _, _, _, rfl, _⟩; rfl
  rintro ds s ⟨ring, steps, one, other, part, rfl, rs, rfl⟩ f cdv A outer s0 H E hr
  have nd := sc_Never_shows.nd
  have r1 := rs.lo
  have l6 := rs.l6
  have cl := DNever.cl
  have np : NoAttr K CN "part" := DNever.na _ (by decide)
  by_cases c1 : part < 2 ∨ (other - one) % part = 0
  · refine hs_cons (M := fun _ => False) (s1_if (k := true) (tq_is (tq_w (wq_or (tq_cmp cr_lt (pb_fld (d := .int part) (pb_v 0) cl np) pb_n) fun h => (wq_or1 (tq_cmp cr_eq (pb_mod (pb_sub (pb_v 4) (pb_v 3)) (pb_fld (d := .int part) (pb_v 0) cl np) (by have := of_decide_eq_false h; omega)) pb_n)))) ?_) (fun _ => hs_ret pp_b ?_) fun h => by cases h) fun _ h => h.elim
    · rcases c1 with c | c
      · rw [decide_eq_true c]; rfl
      · rw [decide_eq_true c]; simp
    · rw [never_no c1]
  · refine hs_no (tq_is (tq_w (wq_or (tq_cmp cr_lt (pb_fld (d := .int part) (pb_v 0) cl np) pb_n) fun h => (wq_or1 (tq_cmp cr_eq (pb_mod (pb_sub (pb_v 4) (pb_v 3)) (pb_fld (d := .int part) (pb_v 0) cl np) (by have := of_decide_eq_false h; omega)) pb_n)))) ?_) ?_
    · rw [decide_eq_false fun z => c1 (.inl z), decide_eq_false fun z => c1 (.inr z)]; rfl
    refine hs_ret (pp_s (pb_allF (f := fun n => decide (n % part = 0)) (l := steps ++ [ring]) B (pb_o (po_I0 (ns := steps ++ [ring]) 5 nd (fun n => .bl (decide (n % part = 0))) (pb_is (pb_o (po_catB (pb_v 2) (pb_o (po_lst (aq_cons (pp_v 1) aq_nil))) (by rw [List.length_map, sizeLine_eq]; show _ + 1 ≤ _; omega) sc_cat)) (by rw [cat_ring])) (by rw [List.length_append, sizeLine_eq]; show _ + 1 ≤ _; omega) fun z hz s1 H1 C1 cl1 fp1 => (pp_s (pb_cmp cr_eq (pb_mod (pb_v 5) (pb_fld (d := .int part) (pb_v 0) cl np) (by omega)) pb_n)))))) ?_
    rw [never_go c1]
theorem ct_Never_shows {CN : Addr} {ring one other part : Int} {steps : List Int} (rs : RS ring steps) : C_Never_shows CN [.ins CN ["part"] [.int part], .int ring, .ints steps, .int one, .int other] (.d (.bl (neverM ring steps one other part))) := ⟨_, _, _, _, _, rfl, rs, rfl⟩
def C_way_back : Ct := fun ds s => ∃ ring steps one other, ∃ k : Nat, ds = [.int ring, .ints steps, .lst ((lasL ring steps one).map optD), .int one, .int other] ∧ RS ring steps ∧ 0 ≤ one ∧ one < ring ∧ 0 ≤ other ∧ other < ring ∧ (cntL ring steps one)[other.toNat]? = some (some (k : Int)) ∧ s = .o ((wayM ring steps one k other).map .int)
theorem h_way_back (B : Bi mg) (T : Df K mg "way_back" s_way_back ["ring", "steps", "last", "one", "other"]) : Has P w K mg base 1 "way_back" [] C_way_back := by
  refine has_def T sc_way_back ?_ ?_
  · rintro ds s ⟨_, _, _, _, _, rfl, _⟩; rfl
  rintro ds s ⟨ring, steps, one, other, k, rfl, rs, o0, o1, t0, t1, hk, rfl⟩ f cdv A outer s0 H E hr
  have nd := sc_way_back.nd
  have r1 := rs.lo
  have r2 := rs.hi
  have k60 : k ≤ 60 := by
    obtain ⟨j, e, d⟩ := cnt_some r1 o0 o1 hk
    have := isd_lt r1 r2 o0 o1 d
    omega
  have ll := las_len (steps := steps) r1 o0 o1
  refine hs_asgO 5 nd (po_lst aq_nil) ?_
  refine hs_cons (M := fun r => r = [.i ring, .is steps, .d (.lst ((lasL ring steps one).map optD)), .i one, .i one, .o ((wbL ring steps (lasL ring steps one) k other).map .int)])
    (s1_while (Z := List Int × Int × Nat) (fun y => [.i ring, .is steps, .d (.lst ((lasL ring steps one).map optD)), .i one, .i y.2.1, .o (y.1.map .int)]) (fun y => y.2.2) ([], other, k) (fun y => !decide (y.2.1 = one))
      (fun y => 0 ≤ y.2.1 ∧ y.2.1 < ring ∧ (cntL ring steps one)[y.2.1.toNat]? = some (some (y.2.2 : Int)) ∧ y.1 ++ wbL ring steps (lasL ring steps one) y.2.2 y.2.1 = wbL ring steps (lasL ring steps one) k other ∧ y.1.length + y.2.2 = k) Le.refl ⟨t0, t1, hk, rfl, by simp⟩ (fun y hy => tq_cmp cr_ne (pb_v 4) (pb_v 3)) (fun y hy hq => ?_) (fun y hy hq => ?_)) ?_
  · obtain ⟨fd, q, j⟩ := y
    obtain ⟨q0, q1, qc, qe, ql⟩ := hy
    have q0' : 0 ≤ q := q0
    have q1' : q < ring := q1
    have ne : ¬ q = one := of_decide_eq_false (by simpa using hq)
    cases j with
    | zero => exact absurd ((cnt_zero r1 r2 o0 o1 q0' q1').mp qc) ne
    | succ j =>
      obtain ⟨b1, b2, b3⟩ := back_ok r1 o0 o1 q0' q1' qc
      have hat : atI ((lasL ring steps one).map optD) q = some (.int (laM (lasL ring steps one) q)) := by
        have := at_opt (f := lasL ring steps one) (t := q.toNat) (z := q) (by omega) (by omega)
        rw [b1] at this; exact this
      have qe' : fd ++ wbL ring steps (lasL ring steps one) (j + 1) q = wbL ring steps (lasL ring steps one) k other := qe
      rw [wbL] at qe'
      generalize laM (lasL ring steps one) q = a at *
      have m := mod_in r1 (q - steps.getD a.toNat 0)
      refine hs_app (d := .int a) (xs := fd.map .int) 5 (pp_s (pb_ix (pb_v 2) (pb_v 4) hat)) (by rw [List.length_map, sizeLine_eq]; have : fd.length + (j + 1) = k := ql; omega) ?_
      refine hs_asg 4 nd (pp_s (pb_mod (pb_sub (pb_v 4) (pb_ix (pb_v 1) (pb_ix (pb_v 2) (pb_v 4) hat) (at_intD b2.1 b2.2))) (pb_v 0) (by omega))) (hs_nil ⟨(fd ++ [a], (q - steps.getD a.toNat 0) % ring, j), ⟨m.1, m.2, b3, by rw [← qe', List.append_assoc]; rfl, by
        have : fd.length + (j + 1) = k := ql
        show (fd ++ [a]).length + j = k
        rw [List.length_append]; show _ + 1 + j = k; omega⟩, by show j < j + 1; omega, ?_⟩)
      show Le _ [_, _, _, _, _, .o ((fd ++ [a]).map .int)]
      rw [List.map_append]
      exact Le.refl
  · obtain ⟨fd, q, j⟩ := y
    obtain ⟨q0, q1, qc, qe, ql⟩ := hy
    have eq : q = one := of_decide_eq_true (by simpa using hq)
    have qc' : (cntL ring steps one)[q.toNat]? = some (some (j : Int)) := qc
    rw [(cnt_zero r1 r2 o0 o1 q0 q1).mpr eq] at qc'
    have ej : j = 0 := by
      have := Option.some.inj (Option.some.inj qc')
      omega
    subst ej
    have qe' : fd ++ [] = wbL ring steps (lasL ring steps one) k other := qe
    rw [List.append_nil] at qe'
    show [Slot.i ring, .is steps, _, .i one, .i q, .o (fd.map .int)] = _
    rw [qe', eq]
  · rintro _ rfl
    refine hs_retP (po_revB (pb_w 5) sc_ints) ?_
    show Slot.o _ = .o _
    unfold wayM
    rw [List.map_reverse]
theorem ct_way_back {ring one other : Int} {steps : List Int} {k : Nat} (rs : RS ring steps) (o0 : 0 ≤ one) (o1 : one < ring) (t0 : 0 ≤ other) (t1 : other < ring) (h : (cntL ring steps one)[other.toNat]? = some (some (k : Int))) : C_way_back [.int ring, .ints steps, .lst ((lasL ring steps one).map optD), .int one, .int other] (.o ((wayM ring steps one k other).map .int)) := ⟨_, _, _, _, _, rfl, rs, o0, o1, t0, t1, h, rfl⟩
def C_told (CC CN : Addr) : Ct := fun ds s => ∃ ring steps one other, ds = [.int ring, .ints steps, .int one, .int other] ∧ RS ring steps ∧ 0 ≤ one ∧ one < ring ∧ 0 ≤ other ∧ other < ring ∧
  ((∃ k : Nat, (cntL ring steps one)[other.toNat]? = some (some (k : Int)) ∧ s = .ob none CC (comeF (wayM ring steps one k other) (hgtM ring steps one))) ∨ ((cntL ring steps one)[other.toNat]? = some none ∧ s = Slot.obj CN ["part"] [.int (gcdL (steps ++ [ring]))]))
theorem rs_nn {ring : Int} {steps : List Int} (rs : RS ring steps) : ∀ n, n ∈ steps ++ [ring] → 0 ≤ n := fun n hn => by
  have := rs.lo
  rcases List.mem_append.mp hn with z | z
  · have := rs.rg n z; omega
  · rw [List.mem_singleton.mp z]; omega
set_option maxHeartbeats 4000000 in
theorem h_told {CC CN : Addr} (B : Bi mg) (T : Df K mg "told" s_told ["ring", "steps", "one", "other"]) (Hcheck_ring : Has P w K mg base 3 "check_ring" [.int 60] C_check_ring) (Hcheck_steps : Has P w K mg base 3 "check_steps" [.int 6] C_check_steps) (Hcheck_place : Has P w K mg base 3 "check_place" [] C_check_place)
    (Hspread : Has P w K mg base 1 "spread" [] C_spread) (Hcommon_of : Has P w K mg base 2 "common_of" [] C_common_of) (Hway_back : Has P w K mg base 1 "way_back" [] C_way_back) (INever : HasI P w K mg base 1 "Never" CN ["part"]) (HCome___init__ : HasN P w K mg base 1 "Come" CC C_Come_init) : Has P w K mg base 4 "told" [] (C_told CC CN) := by
  refine has_def T sc_told ?_ ?_
  · rintro ds s ⟨_, _, _, _, rfl, _⟩; rfl
  rintro ds s ⟨ring, steps, one, other, rfl, rs, o0, o1, t0, t1, hs⟩ f cdv A outer s0 H E hr
  have nd := sc_told.nd
  have r1 := rs.lo
  have r2 := rs.hi
  have l6 := rs.l6
  have lc := cnt_len (steps := steps) r1 o0 o1
  refine hs_exp (pp_s (pb_call Hcheck_ring hr (ab_cons (pb_v 0) ab_nil) (ct_check_ring r1 r2))) ?_
  refine hs_exp (pp_s (pb_call Hcheck_steps hr (ab_cons (pb_v 1) ab_nil) (ct_check_steps6 rs))) ?_
  refine hs_exp (pp_s (pb_call Hcheck_place hr (ab_cons (pb_v 0) (ab_cons (pb_v 2) ab_nil)) (ct_check_place o0 o1))) ?_
  refine hs_exp (pp_s (pb_call Hcheck_place hr (ab_cons (pb_v 0) (ab_cons (pb_v 3) ab_nil)) (ct_check_place t0 t1))) ?_
  refine hs_asgT (pp_call (Hspread.mono (by decide)) hr (aq_cons (pp_v 0) (aq_cons (pp_v 1) (aq_cons (pp_v 2) aq_nil))) (ct_spread rs o0 o1)) (gq_t (gqs_cons (gq_n 4 nd) (gqs_cons (gq_n 5 nd) gqs_nil))) ?_
  have hat : atI ((cntL ring steps one).map optD) other = some (optD ((cntL ring steps one).getD other.toNat none)) := at_opt (by omega) (by omega)
  rcases hs with ⟨k, hk, rfl⟩ | ⟨hk, rfl⟩
  · have eg : (cntL ring steps one).getD other.toNat none = some (k : Int) := by rw [List.getD_eq_getElem?_getD, hk]; rfl
    rw [eg] at hat
    refine hs_no (tq_cmp cr_isN (pb_ix (pb_v 4) (pb_v 3) hat) pb_N) ?_
    refine hs_A (fa := optD) (as := cntL ring steps one) 6 (.o ((hgtM ring steps one).map .int)) 7 nd (fun o => .int (o.getD 0)) (pp_v 4) (by rw [lc, sizeLine_eq]; omega) (fun o ho s1 H1 C1 cl1 fp1 => ?_) (.inl (by show Slot.o _ = .o _; unfold hgtM; rw [List.map_map]; rfl)) ?_
    · cases o with
      | none => exact pp_if (d := .int 0) (k := false) (tq_cmp (cr_notN (d := .non)) (pb_v 7) pb_N) (fun h => by cases h) (fun _ => pp_n)
      | some i => exact pp_if (d := .int i) (k := true) (tq_cmp (cr_notN (d := .int i)) (pb_v 7) pb_N) (fun _ => pp_v 7) (fun h => by cases h)
    exact hs_retN (pn_make HCome___init__ (hr.mono (by decide)) (ab_cons (pb_o (po_callB (Hway_back.mono (by decide)) hr (ab_cons (pb_v 0) (ab_cons (pb_v 1) (ab_cons (pb_v 5) (ab_cons (pb_v 2) (ab_cons (pb_v 3) ab_nil))))) (ct_way_back rs o0 o1 t0 t1 hk) sc_ints)) (ab_cons (pb_w 6) ab_nil)) ct_Come_init sc_come) rfl
  · have eg : (cntL ring steps one).getD other.toNat none = none := by rw [List.getD_eq_getElem?_getD, hk]; rfl
    rw [eg] at hat
    refine hs_cons (M := fun _ => False) (s1_if (k := true) (tq_cmp cr_isN (pb_ix (pb_v 4) (pb_v 3) hat) pb_N) (fun _ => ?_) fun h => by cases h) fun _ h => h.elim
    exact hs_retM (pm_make INever (hr.mono (by decide)) (aq_cons (pp_s (pb_call (Hcommon_of.mono (by decide)) hr (ab_cons (pb_is (pb_o (po_catB (pb_v 1) (pb_o (po_lst (aq_cons (pp_v 0) aq_nil))) (by rw [List.length_map, sizeLine_eq]; show _ + 1 ≤ _; omega) sc_cat)) (by rw [cat_ring])) ab_nil) (ct_common_of (rs_nn rs)))) aq_nil)) rfl
end

/-! ### walkers -/
inductive Wd where
  | go (a : Int) | back
deriving DecidableEq, Inhabited
abbrev Ln := Wd × Int
structure Wk where
  ring : Int
  steps : List Int
  line : List Int
  ways : List Int
  counts : List Int
  lines : List Ln
def Wk.here (s : Wk) : Int := s.line.getLastD 0
def standM (s : Wk) (w : Wd) : Wk := ⟨s.ring, s.steps, s.line, s.ways, s.counts.set s.here.toNat (s.counts.getD s.here.toNat 0 + 1), s.lines ++ [(w, s.here)]⟩
def goW (s : Wk) (a : Int) : Wk := ⟨s.ring, s.steps, s.line ++ [(s.here + s.steps.getD a.toNat 0) % s.ring], s.ways ++ [a], s.counts, s.lines⟩
def backW (s : Wk) : Wk := ⟨s.ring, s.steps, s.line.dropLast, s.ways.dropLast, s.counts, s.lines⟩
def goM (s : Wk) (a : Int) : Wk := standM (goW s a) (.go a)
def backM (s : Wk) : Wk := standM (backW s) .back
def newW (ring : Int) (steps : List Int) (place : Int) : Wk := ⟨ring, steps, [place], [], (List.replicate ring.toNat 0).set place.toNat 1, []⟩
theorem last_snoc (l : List Int) (z : Int) : (l ++ [z]).getLastD 0 = z := by
  rw [List.getLastD_eq_getLast?, List.getLast?_append]; rfl
theorem last_of {l : List Int} (h : l ≠ []) : ∃ p, l = p ++ [l.getLastD 0] := by
  rcases List.eq_nil_or_concat l with e | ⟨a, b, e⟩
  · exact absurd e h
  · rw [List.concat_eq_append] at e
    exact ⟨a, by rw [e, last_snoc]⟩
/-- what stands in the state -/
structure WkOk (s : Wk) : Prop where
  len : s.line.length = s.ways.length + 1
  inn : ∀ z, z ∈ s.line → 0 ≤ z ∧ z < s.ring
  cnt : s.counts.length = s.ring.toNat
  wa : ∀ a, a ∈ s.ways → 0 ≤ a ∧ a < (s.steps.length : Int)
theorem WkOk.ne {s : Wk} (h : WkOk s) : s.line ≠ [] := fun e => by have := h.len; rw [e] at this; simp at this
theorem WkOk.here {s : Wk} (h : WkOk s) : 0 ≤ s.here ∧ s.here < s.ring := by
  obtain ⟨p, e⟩ := last_of h.ne
  exact h.inn s.here (by rw [e]; exact List.mem_append_right _ (List.mem_singleton.mpr rfl))
theorem WkOk.new {ring place : Int} {steps : List Int} (h0 : 0 ≤ place) (h1 : place < ring) : WkOk (newW ring steps place) :=
  ⟨rfl, fun z hz => by rw [List.mem_singleton.mp hz]; exact ⟨h0, h1⟩, by show (List.set _ _ _).length = _; rw [List.length_set, List.length_replicate]; rfl, fun a ha => by cases ha⟩
theorem WkOk.goW {s : Wk} (h : WkOk s) (r1 : 1 ≤ s.ring) {a : Int} (a0 : 0 ≤ a) (a1 : a < (s.steps.length : Int)) : WkOk (goW s a) := by
  refine ⟨?_, fun z hz => ?_, h.cnt, fun z hz => ?_⟩
  · show (s.line ++ [_]).length = (s.ways ++ [a]).length + 1
    rw [List.length_append, List.length_append, h.len]; rfl
  · rcases List.mem_append.mp hz with w | w
    · exact h.inn z w
    · rw [List.mem_singleton.mp w]
      exact ⟨Int.emod_nonneg _ (by omega), Int.emod_lt_of_pos _ (by omega)⟩
  · rcases List.mem_append.mp hz with w | w
    · exact h.wa z w
    · rw [List.mem_singleton.mp w]; exact ⟨a0, a1⟩
theorem WkOk.backW {s : Wk} (h : WkOk s) (n : s.ways ≠ []) : WkOk (backW s) := by
  have l := h.len
  have p : 0 < s.ways.length := List.length_pos_iff.mpr n
  refine ⟨?_, fun z hz => h.inn z ((List.dropLast_sublist _).subset hz), h.cnt, fun z hz => h.wa z ((List.dropLast_sublist _).subset hz)⟩
  show s.line.dropLast.length = s.ways.dropLast.length + 1
  rw [List.length_dropLast, List.length_dropLast]; omega
theorem WkOk.stand {s : Wk} (h : WkOk s) (w : Wd) : WkOk (standM s w) := ⟨h.len, h.inn, by show (List.set _ _ _).length = _; rw [List.length_set]; exact h.cnt, h.wa⟩

/-! ### walkers.py: Walker -/
def wdL : Wd → List D
  | .go a => [.str "go", .int a]
  | .back => [.str "back"]
def lnD (l : Ln) : D := .tup (wdL l.1 ++ [.int l.2])
abbrev wkF (s : Wk) : List (Str × Fld) := [("ring", .d (.int s.ring)), ("steps", .o (s.steps.map .int)), ("line", .o (s.line.map .int)), ("ways", .o (s.ways.map .int)), ("counts", .o (s.counts.map .int)), ("lines", .o (s.lines.map lnD))]
theorem wk_no {m : Str} (s : Wk) (h : m ∉ (["ring", "steps", "line", "ways", "counts", "lines"] : List Str)) : m ∉ (wkF s).map Prod.fst := h
theorem at_here {s : Wk} (h : s.line ≠ []) : atI (s.line.map D.int) (-1) = some (.int s.here) := by
  obtain ⟨p, e⟩ := last_of h
  have : s.line.map D.int = p.map D.int ++ [.int s.here] := by
    conv => lhs; rw [e]
    rw [List.map_append]; rfl
  rw [this]; exact at_back
theorem wdL_ne (w : Wd) : wdL w ≠ [] := by cases w <;> exact fun h => by cases h
theorem wdL_len (w : Wd) : (wdL w).length ≤ 2 := by cases w <;> simp [wdL]
section
variable {P : Program} {w : World} {K : PySem.W.Frag} {mg : Str → Option Value} {base : Heap} {CW : Addr}
abbrev DWk (K : PySem.W.Frag) (mg : Str → Option Value) (CW : Addr) : Prop := Di K mg "Walker" "Walker.__init__" CW s_Walker___init__ ["self", "ring", "steps", "place"] ["ring", "steps", "line", "ways", "counts", "lines"]
def C_Walker_init : CtL := fun fs ds s fs' => ∃ ring steps place, fs = [] ∧ ds = [.int ring, .ints steps, .int place] ∧ RS ring steps ∧ 0 ≤ place ∧ place < ring ∧ s = .d .non ∧ fs' = wkF (newW ring steps place)
theorem h_Walker___init__ (B : Bi mg) (DWalker : Di K mg "Walker" "Walker.__init__" CW s_Walker___init__ ["self", "ring", "steps", "place"] ["ring", "steps", "line", "ways", "counts", "lines"]) (Hcheck_ring : Has P w K mg base 3 "check_ring" [.int 60] C_check_ring) (Hcheck_steps : Has P w K mg base 3 "check_steps" [.int 6] C_check_steps) (Hcheck_place : Has P w K mg base 3 "check_place" [] C_check_place) : HasN P w K mg base 4 "Walker" CW C_Walker_init := by
  refine has_init DWalker sc_Walker___init__ ?_ ?_
  · rintro fs ds s fs' ⟨_, _, _, _, rfl, _⟩; rfl
  rintro fs ds s fs' ⟨ring, steps, place, rfl, rfl, rs, p0, p1, rfl, rfl⟩ p f cdv A outer s0 H E hr
  have cl := DWalker.cl
  have r1 := rs.lo
  have r2 := rs.hi
  refine hs_exp (pp_s (pb_call Hcheck_ring hr (ab_cons (pb_v 1) ab_nil) (ct_check_ring rs.lo rs.hi))) ?_
  refine hs_exp (pp_s (pb_call Hcheck_steps hr (ab_cons (pb_v 2) ab_nil) (ct_check_steps6 rs))) ?_
  refine hs_exp (pp_s (pb_call Hcheck_place hr (ab_cons (pb_v 1) (ab_cons (pb_v 3) ab_nil)) (ct_check_place p0 p1))) ?_
  refine hs_setF2 0 (as_d (pp_v 1) (as_o (po_list B (pp_v 2)) as_nil)) cl (DWalker.na _ (by decide)) (DWalker.na _ (by decide)) ?_
  refine hs_setF2 (fs := [("ring", .d (.int ring)), ("steps", .o (steps.map .int))]) 0 (as_o (po_lst (aq_cons (pp_v 3) aq_nil)) (as_o (po_lst aq_nil) as_nil)) cl (DWalker.na _ (by decide)) (DWalker.na _ (by decide)) ?_ (hl := (by decide : 2 < 900))
  refine hs_setF2 (fs := [("ring", .d (.int ring)), ("steps", .o (steps.map .int)), ("line", .o [.int place]), ("ways", .o [])]) 0 (as_o (po_rep (pp_o (po_lst (aq_cons pp_n aq_nil))) (pp_v 1) (by omega) (by omega) (by rw [sizeLine_eq]; show 1 * _ ≤ _; omega)) (as_o (po_lst aq_nil) as_nil)) cl (DWalker.na _ (by decide)) (DWalker.na _ (by decide)) ?_ (hl := (by decide : 4 < 900))
  have er : (List.replicate ring.toNat [D.int 0]).flatten = (List.replicate ring.toNat (0 : Int)).map .int := by rw [flat_rep, List.map_replicate]
  refine hs_putF (xs := (List.replicate ring.toNat [D.int 0]).flatten) (jx := place.toNat) 0 pp_n (pb_v 3) cl (DWalker.na _ (by decide)) (by rw [er, List.length_map, List.length_replicate]; exact ix_of p0 (by omega)) (hs_nil ⟨rfl, ?_⟩)
  show some (Slot.ob (some p) CW [_, _, _, _, ("counts", .o ((List.replicate ring.toNat [D.int 0]).flatten.set place.toNat (.int 1))), _]) = some (.ob (some p) CW [_, _, _, _, ("counts", .o (((List.replicate ring.toNat (0 : Int)).set place.toNat 1).map .int)), _])
  rw [er, List.map_set]; rfl
theorem ct_Walker_init {ring place : Int} {steps : List Int} (rs : RS ring steps) (p0 : 0 ≤ place) (p1 : place < ring) : C_Walker_init [] [.int ring, .ints steps, .int place] (.d .non) (wkF (newW ring steps place)) := ⟨_, _, _, rfl, rfl, rs, p0, p1, rfl, rfl⟩
def C_stand : CtL := fun fs ds s fs' => ∃ st wd, fs = wkF st ∧ ds = [.tup (wdL wd)] ∧ WkOk st ∧ st.lines.length < 2000 ∧ s = .d (.int st.here) ∧ fs' = wkF (standM st wd)
theorem h_Walker_stand (B : Bi mg) (T : Dm K CW "stand" "Walker.stand" s_Walker_stand ["self", "word"]) (DWalker : Di K mg "Walker" "Walker.__init__" CW s_Walker___init__ ["self", "ring", "steps", "place"] ["ring", "steps", "line", "ways", "counts", "lines"]) : HasL P w K mg base 1 CW "stand" C_stand := by
  refine has_methL T sc_Walker_stand ?_ ?_
  · rintro fs ds s fs' ⟨_, _, _, rfl, _⟩; rfl
  rintro fs ds s fs' ⟨st, wd, rfl, rfl, ok, ll, rfl, rfl⟩ p f cdv A outer s0 H E hr
  have nd := sc_Walker_stand.nd
  have cl := DWalker.cl
  have hh := ok.here
  have hc := ok.cnt
  have hl := wdL_len wd
  refine hs_asg 2 nd (pp_s (pb_ix (pb_fld (d := .ints st.line) (pb_ob 0) cl (DWalker.na _ (by decide))) (pb_neg pb_n) (at_here ok.ne))) ?_
  refine hs_augF (n := st.counts.getD st.here.toNat 0) (m := 1) (z := st.here) (jx := st.here.toNat) (xs := st.counts.map .int) 0 (pb_v 2) pb_n cl (DWalker.na _ (by decide)) hh.1 (by rw [List.length_map]; exact ix_of hh.1 (by omega)) (at_intD hh.1 (by omega)) ?_
  refine hs_appF (xs := st.lines.map lnD) 0 (pp_catT (pp_v 1) (pp_tup (aq_cons (pp_v 2) aq_nil)) (wdL_ne wd) (fun h => by cases h) (by rw [sizeLine_eq]; show (wdL wd).length + 1 ≤ _; omega)) cl (DWalker.na _ (by decide)) (by rw [List.length_map, sizeLine_eq]; omega) ?_
  refine hs_ret (pp_v 2) ⟨rfl, ?_⟩
  show some (Slot.ob (some p) CW [_, _, _, _, ("counts", .o ((st.counts.map .int).set st.here.toNat (.int (st.counts.getD st.here.toNat 0 + 1)))), ("lines", .o (st.lines.map lnD ++ [.tup (wdL wd ++ [.int st.here])]))]) = some (.ob (some p) CW [_, _, _, _, ("counts", .o ((st.counts.set st.here.toNat (st.counts.getD st.here.toNat 0 + 1)).map .int)), ("lines", .o ((st.lines ++ [(wd, st.here)]).map lnD))])
  rw [List.map_set, List.map_append]; rfl
theorem ct_stand {st : Wk} {wd : Wd} (ok : WkOk st) (ll : st.lines.length < 2000) : C_stand (wkF st) [.tup (wdL wd)] (.d (.int st.here)) (wkF (standM st wd)) := ⟨_, _, rfl, rfl, ok, ll, rfl, rfl⟩
def C_go : CtL := fun fs ds s fs' => ∃ st a, fs = wkF st ∧ ds = [.int a] ∧ WkOk st ∧ 1 ≤ st.ring ∧ 0 ≤ a ∧ a < (st.steps.length : Int) ∧ st.lines.length < 2000 ∧ st.ways.length < 2000 ∧ s = .d (.int (goW st a).here) ∧ fs' = wkF (goM st a)
theorem h_Walker_go (B : Bi mg) (T : Dm K CW "go" "Walker.go" s_Walker_go ["self", "step"]) (DWalker : Di K mg "Walker" "Walker.__init__" CW s_Walker___init__ ["self", "ring", "steps", "place"] ["ring", "steps", "line", "ways", "counts", "lines"]) (Hwithin : Has P w K mg base 2 "within" [] C_within) (HWalker_stand : HasL P w K mg base 1 CW "stand" C_stand) : HasL P w K mg base 3 CW "go" C_go := by
  refine has_methL T sc_Walker_go ?_ ?_
  · rintro fs ds s fs' ⟨_, _, _, rfl, _⟩; rfl
  rintro fs ds s fs' ⟨st, a, rfl, rfl, ok, r1, a0, a1, ll, lw, rfl, rfl⟩ p f cdv A outer s0 H E hr
  have nd := sc_Walker_go.nd
  have cl := DWalker.cl
  have hlen := ok.len
  have ok2 := ok.goW r1 a0 a1
  refine hs_no (tq_is (tq_not (tq_v (pb_call Hwithin hr (ab_cons (pb_v 1) (ab_cons pb_n (ab_cons (pb_sub (pb_len B (pb_fld (d := .ints st.steps) (pb_ob 0) cl (DWalker.na _ (by decide)))) pb_n) ab_nil))) ct_within))) (by rw [List.length_map, decide_eq_true a0, decide_eq_true (by omega)]; rfl)) ?_
  refine hs_appF (xs := st.line.map .int) 0 (pp_s (pb_mod (pb_add (pb_ix (pb_fld (d := .ints st.line) (pb_ob 0) cl (DWalker.na _ (by decide))) (pb_neg pb_n) (at_here ok.ne)) (pb_ix (pb_fld (d := .ints st.steps) (pb_ob 0) cl (DWalker.na _ (by decide))) (pb_v 1) (at_intD a0 a1))) (pb_fld (d := .int st.ring) (pb_ob 0) cl (DWalker.na _ (by decide))) (by omega))) cl (DWalker.na _ (by decide)) (by rw [List.length_map, sizeLine_eq]; omega) ?_
  refine hs_appF (xs := st.ways.map .int) 0 (pp_v 1) cl (DWalker.na _ (by decide)) (by rw [List.length_map, sizeLine_eq]; omega) ?_
  refine hs_le (r1 := [.ob (some p) CW (wkF (goW st a)), .i a]) (Le.of ?_) ?_
  · show [Slot.ob (some p) CW [_, _, ("line", .o (st.line.map .int ++ [.int ((st.here + st.steps.getD a.toNat 0) % st.ring)])), ("ways", .o (st.ways.map .int ++ [.int a])), _, _], _] = [Slot.ob (some p) CW [_, _, ("line", .o ((st.line ++ [(st.here + st.steps.getD a.toNat 0) % st.ring]).map .int)), ("ways", .o ((st.ways ++ [a]).map .int)), _, _], _]
    rw [List.map_append, List.map_append]; rfl
  exact hs_retL (pl_meth (ds := [.tup (wdL (.go a))]) 0 (HWalker_stand.mono (by decide)) hr (aq_cons (pp_tup (aq_cons pp_t (aq_cons (pp_v 1) aq_nil))) aq_nil) (ct_stand (wd := .go a) ok2 ll) (hn := wk_no _ (by decide))) ⟨rfl, rfl⟩
theorem ct_go {st : Wk} {a : Int} (ok : WkOk st) (r1 : 1 ≤ st.ring) (a0 : 0 ≤ a) (a1 : a < (st.steps.length : Int)) (ll : st.lines.length < 2000) (lw : st.ways.length < 2000) : C_go (wkF st) [.int a] (.d (.int (goW st a).here)) (wkF (goM st a)) := ⟨_, _, rfl, rfl, ok, r1, a0, a1, ll, lw, rfl, rfl⟩
def C_back : CtL := fun fs ds s fs' => ∃ st, fs = wkF st ∧ ds = [] ∧ WkOk st ∧ st.ways ≠ [] ∧ st.lines.length < 2000 ∧ s = .d (.int (backW st).here) ∧ fs' = wkF (backM st)
theorem h_Walker_back (B : Bi mg) (T : Dm K CW "back" "Walker.back" s_Walker_back ["self"]) (DWalker : Di K mg "Walker" "Walker.__init__" CW s_Walker___init__ ["self", "ring", "steps", "place"] ["ring", "steps", "line", "ways", "counts", "lines"]) (HWalker_stand : HasL P w K mg base 1 CW "stand" C_stand) : HasL P w K mg base 3 CW "back" C_back := by
  refine has_methL T sc_Walker_back ?_ ?_
  · rintro fs ds s fs' ⟨_, _, rfl, _⟩; rfl
  rintro fs ds s fs' ⟨st, rfl, rfl, ok, wn, ll, rfl, rfl⟩ p f cdv A outer s0 H E hr
  have nd := sc_Walker_back.nd
  have cl := DWalker.cl
  have ok2 := ok.backW wn
  refine hs_no (tq_is (tq_cmp (cr_eqL (a := st.ways) (b := []) hr) (pb_fld (d := .ints st.ways) (pb_ob 0) cl (DWalker.na _ (by decide))) (pb_o (po_lst aq_nil))) (decide_eq_false wn)) ?_
  refine hs_popF (xs := st.line.map .int) 0 cl (DWalker.na _ (by decide)) (fun h => ok.ne (List.map_eq_nil_iff.mp h)) ?_
  refine hs_popF (xs := st.ways.map .int) 0 cl (DWalker.na _ (by decide)) (fun h => wn (List.map_eq_nil_iff.mp h)) ?_
  refine hs_le (r1 := [.ob (some p) CW (wkF (backW st))]) (Le.of ?_) ?_
  · show [Slot.ob (some p) CW [_, _, ("line", .o (st.line.map .int).dropLast), ("ways", .o (st.ways.map .int).dropLast), _, _]] = [Slot.ob (some p) CW [_, _, ("line", .o (st.line.dropLast.map .int)), ("ways", .o (st.ways.dropLast.map .int)), _, _]]
    rw [List.map_dropLast, List.map_dropLast]; rfl
  exact hs_retL (pl_meth (ds := [.tup (wdL .back)]) 0 (HWalker_stand.mono (by decide)) hr (aq_cons (pp_tup (aq_cons pp_t aq_nil)) aq_nil) (ct_stand (wd := .back) ok2 ll) (hn := wk_no _ (by decide))) ⟨rfl, rfl⟩
theorem ct_back {st : Wk} (ok : WkOk st) (wn : st.ways ≠ []) (ll : st.lines.length < 2000) : C_back (wkF st) [] (.d (.int (backW st).here)) (wkF (backM st)) := ⟨_, rfl, rfl, ok, wn, ll, rfl, rfl⟩
end

/-! ### k14: the law -/
section
variable {X : Cx} {r : List Slot} {e : Expr} {es : List Expr} {p pos : Pos} {CC CN : Addr} {way hs : List Int} {ds : List D} {k : Nat}
theorem pp_toldC (h : Has X.prog X.w X.K X.mg X.base k "told" [] (C_told CC CN)) (hr : Room k X.A) (ha : AB X r (e :: es) ds) (hc : C_told CC CN ds (.ob none CC (comeF way hs))) (hg : Gl X "told" := by rfl)
    (he : starEach (e :: es) X.env = (false, eval e X.env) :: starEach es X.env := by rfl) (hpl : (backTo pos (starEach es X.env)).any (·.1) = false := by rfl) : PP X r (.Call (.Name "told" p) (e :: es) [] pos) (comeD CC way hs) :=
  pp_new (pn_callB h hr ha (by rw [List.append_nil]; exact hc) sc_come hg (by decide) he hpl)
end
theorem ct_toldC14 {CC CN : Addr} {ring one other : Int} {steps : List Int} (rs : RS ring steps) (o0 : 0 ≤ one) (o1 : one < ring) (t0 : 0 ≤ other) (t1 : other < ring) {k : Nat} (h : (cntL ring steps one)[other.toNat]? = some (some (k : Int))) : C_told CC CN [.int ring, .ints steps, .int one, .int other] (.ob none CC (comeF (wayM ring steps one k other) (hgtM ring steps one))) := ⟨_, _, _, _, rfl, rs, o0, o1, t0, t1, .inl ⟨k, h, rfl⟩⟩
theorem end14 : farM 60 [60] = none ∧ farM 1 [1, 2, 3, 4, 5, 6] = some 0 ∧ atI ((cntL 60 [60] 59).map optD) 59 = some (.int 0) ∧ (cntL 60 [1] 59)[(0 : Int).toNat]? = some (some ((1 : Nat) : Int)) ∧ wayM 60 [1] 59 1 0 = [0] := by
  refine ⟨?_, ?_, ?_, ?_, ?_⟩
  · unfold farM cntL; decide +kernel
  · unfold farM cntL; decide +kernel
  · have : cntL 60 [60] 59 = List.replicate 59 none ++ [some 0] := by unfold cntL; decide +kernel
    rw [this]; rfl
  · unfold cntL; decide +kernel
  · unfold wayM lasL; decide +kernel
theorem sc_newW {ring place : Int} {steps : List Int} : ∀ z, z ∈ wkF (newW ring steps place) → ScF z.2 := fun z hz => by
  rcases List.mem_cons.mp hz with e | hz
  · rw [e]; exact .int
  · rcases List.mem_cons.mp hz with e | hz
    · rw [e]; exact sc_ints
    · rcases List.mem_cons.mp hz with e | hz
      · rw [e]; exact sc_ints
      · rcases List.mem_cons.mp hz with e | hz
        · rw [e]; exact sc_ints
        · rcases List.mem_cons.mp hz with e | hz
          · rw [e]; exact sc_ints
          · rw [List.mem_singleton.mp hz]; exact fun d hd => by cases hd
theorem cut_ints {ns : List Int} {k : Nat} : cutD (ns.map .int) none (some (k : Int)) = (ns.take k).map .int := by
  have h : HT.sIx (ns.map D.int).length (ns.map D.int).length (some (k : Int)) = min k (ns.map D.int).length := by
    unfold HT.sIx
    simp
    omega
  have h0 : HT.sIx (ns.map D.int).length 0 none = 0 := rfl
  unfold DL.cutD
  rw [h0, h, List.drop_zero, Nat.sub_zero, List.map_take]
  rw [List.length_map, List.take_eq_take_iff]
  simp
section
variable {P : Program} {w : World} {K : PySem.W.Frag} {mg : Str → Option Value} {base : Heap} {cR cS cP CW CC CN : Addr}

set_option maxHeartbeats 4000000 in
theorem h_law {cd P0 P1 P2 f0 : Addr} {oc kV doc pm ct : Value} {od an : Option Addr} {osl : Array (Option Value)} (B : Bi mg) (lk : K.lookup f0 = some ⟨oc, od, .func (PySem.W.fnOf "law" "law" (defArgs s_law) (defBody s_law) (defScope s_law) .none kV doc pm an (.ref cd) ct), osl⟩) (hcd : PySem.W.codeIn K (.ref cd) "law" = true) (TB : LamX.TabB base mg cd P0) (ndT : [P0, P1, P2].Nodup) (H_law_all : Has P w K mg base 8 "_law_all" [] (C__law_all P w K mg base 6 (wh cR cS cP))) (H_law_strange : Has P w K mg base 1 "_law_strange" [] C__law_strange) (H_law_steps_right : HasTb P w K mg base 9 "_law_steps_right" P1 q_s C_great) (H_law_places_right : HasTb P w K mg base 9 "_law_places_right" P2 q_p C_great) (HtoldY : HasY P w K mg base 4 "told" [] (Y_told cR cS cP)) (HnearestY : HasY P w K mg base 4 "nearest" [] (Y_nearest cR cS cP)) (HfarY : HasY P w K mg base 4 "far" [] (Y_far cR cS)) (Hhow_manyY : HasY P w K mg base 5 "how_many" [] (Y_how_many cR cS cP)) (Hway_byY : HasY P w K mg base 5 "way_by" [] (Y_way_by cR cS cP)) (Hnumber_ofY : HasY P w K mg base 4 "number_of" [] (Y_number_of cR cS)) (HafterY : HasY P w K mg base 4 "after" [] (Y_after cR cS cP)) (HeveryY : HasY P w K mg base 4 "every" [] (Y_every cR cS)) (HaddedY : HasY P w K mg base 4 "added" [] (Y_added cR cS)) (HtwosY : HasY P w K mg base 4 "twos" [] (Y_twos cR cS)) (Htold_backY : HasY P w K mg base 4 "told_back" [] (Y_told_back cR)) (HjudgedY : HasY P w K mg base 4 "judged" [] (Y_judged cR cS cP)) (HWalkerY : HasNY P w K mg base 4 "Walker" CW (Y_Walker cR cS cP)) (Hfar : Has P w K mg base 4 "far" [] C_far) (Hnearest : Has P w K mg base 4 "nearest" [] C_nearest) (Htold : Has P w K mg base 4 "told" [] (C_told CC CN)) (DCome : Di K mg "Come" "Come.__init__" CC s_Come___init__ ["self", "way", "heights"] ["way", "heights"]) (HWalker___init__ : HasN P w K mg base 4 "Walker" CW C_Walker_init) (HWalker_go : HasL P w K mg base 3 CW "go" C_go) : FnOk P w K mg base CX0 10 f0 (PySem.W.fnOf "law" "law" (defArgs s_law) (defBody s_law) (defScope s_law) .none kV doc pm an (.ref cd) ct) ["_law_script"] (spLaw K [(P0, q_w), (P1, q_s), (P2, q_p)]) := by
  refine ok_law (m := 3) lk hcd sct_law rfl ndT ?_
  intro ns f A outer s0 H E hr
  have nd := sct_law.nd
  have len2 : ([D.int 0] : List D).length + (cutD (ns.map .int) none (some 2)).length ≤ sizeLine := by
    rw [show (2 : Int) = ((2 : Nat) : Int) from rfl, cut_ints, List.length_map, List.length_take, sizeLine_eq]
    show 1 + _ ≤ _
    omega
  refine hs_cons (M := fun r => r = [.d (.scr ns), .un, .un, .un, .tb P0 q_w, .tb P1 q_s, .tb P2 q_p]) (s1_forI (ns := 0 :: ns.take 2) 1 nd (fun _ => [.d (.scr ns), .un, .un, .un, .tb P0 q_w, .tb P1 q_s, .tb P2 q_p]) (pp_is (pp_o (po_cat (pp_o (po_lst (aq_cons pp_n aq_nil))) (pp_o (po_cutS (pp_v 0) eqN (eqS pb_n))) len2)) ?_) Le.refl (fun k z hz => ?_) rfl) ?_
  · rw [show (2 : Int) = ((2 : Nat) : Int) from rfl, cut_ints]; rfl
  · refine hs_asg 2 nd (pp_s (pb_mod (pb_abs B (pb_v 1)) (pb_pow pb_n pb_n ⟨by decide, by decide, by decide⟩) (by decide))) ?_
    have g0 : 0 ≤ (z.natAbs : Int) % (10 : Int) ^ (20 : Int).toNat := Int.emod_nonneg _ (by decide)
    generalize (z.natAbs : Int) % (10 : Int) ^ (20 : Int).toNat = g at g0 ⊢
    have bad : ∀ d, d ∈ strangeD g hugeM ++ [.int 0, .int 61, .int (61 + g)] → BdI 1 60 d := fun d hd => by
      rcases List.mem_append.mp hd with h | h
      · exact strange_bi g0 huge_pos (by decide) d h
      · simp only [List.mem_cons, List.not_mem_nil, or_false] at h
        rcases h with rfl | rfl | rfl
        · exact bi_int (by decide)
        · exact bi_int (by decide)
        · exact bi_int (by omega)
    have bad8 : ∀ d, d ∈ strangeD g hugeM ++ [.int 0, .int 61, .int (61 + g)] → BdI 1 8 d := fun d hd => by
      rcases List.mem_append.mp hd with h | h
      · exact strange_bi g0 huge_pos (by decide) d h
      · simp only [List.mem_cons, List.not_mem_nil, or_false] at h
        rcases h with rfl | rfl | rfl
        · exact bi_int (by decide)
        · exact bi_int (by decide)
        · exact bi_int (by omega)
    have few8 : ∀ d, d ∈ [D.int 9, .int 60] → BdI 1 8 d := fun d hd => by
      simp only [List.mem_cons, List.not_mem_nil, or_false] at hd
      rcases hd with rfl | rfl
      · exact bi_int (by decide)
      · exact bi_int (by decide)
    have c1 := ct__law_strange (g := g)
    have c2 : (strangeD g hugeM).length + 3 ≤ sizeLine := (by rw [sizeLine_eq]; exact Nat.le_of_ble_eq_true rfl)
    have a1 : C__law_all P w K mg base 6 (wh cR cS cP) [.lst [.fn Lw0, .fn Lw1, .fn Lw2, .fn Lw3, .fn Lw4, .fn Lw5, .fn Lw6, .fn Lw7, .fn Lw8, .fn Lw9, .fn Lw10, .fn Lw11, .fn Lw12], .lst (strangeD g hugeM ++ [.int 0, .int 61, .int (61 + g)]), .int 0] (.d (.bl true)) := ⟨_, _, _, rfl, by rw [List.length_append]; exact c2, (List.forall_mem_cons.2 ⟨⟨_, _, _, rfl, y_Lw0 HtoldY, (.inl ⟨rfl, rfl⟩), fun d hd => ⟨d, rfl, bad d hd, rfl⟩⟩, (List.forall_mem_cons.2 ⟨⟨_, _, _, rfl, y_Lw1 HnearestY, (.inl ⟨rfl, rfl⟩), fun d hd => ⟨d, rfl, bad d hd, rfl⟩⟩, (List.forall_mem_cons.2 ⟨⟨_, _, _, rfl, y_Lw2 HfarY, (.inl ⟨rfl, rfl⟩), fun d hd => ⟨d, rfl, bad d hd, rfl⟩⟩, (List.forall_mem_cons.2 ⟨⟨_, _, _, rfl, y_Lw3 Hhow_manyY, (.inl ⟨rfl, rfl⟩), fun d hd => ⟨d, rfl, bad d hd, rfl⟩⟩, (List.forall_mem_cons.2 ⟨⟨_, _, _, rfl, y_Lw4 Hway_byY, (.inl ⟨rfl, rfl⟩), fun d hd => ⟨d, rfl, bad d hd, rfl⟩⟩, (List.forall_mem_cons.2 ⟨⟨_, _, _, rfl, y_Lw5 Hnumber_ofY, (.inl ⟨rfl, rfl⟩), fun d hd => ⟨d, rfl, bad d hd, rfl⟩⟩, (List.forall_mem_cons.2 ⟨⟨_, _, _, rfl, y_Lw6 HafterY, (.inl ⟨rfl, rfl⟩), fun d hd => ⟨d, rfl, bad d hd, rfl⟩⟩, (List.forall_mem_cons.2 ⟨⟨_, _, _, rfl, y_Lw7 HeveryY, (.inl ⟨rfl, rfl⟩), fun d hd => ⟨d, rfl, bad d hd, rfl⟩⟩, (List.forall_mem_cons.2 ⟨⟨_, _, _, rfl, y_Lw8 HaddedY, (.inl ⟨rfl, rfl⟩), fun d hd => ⟨d, rfl, bad d hd, rfl⟩⟩, (List.forall_mem_cons.2 ⟨⟨_, _, _, rfl, y_Lw9 HtwosY, (.inl ⟨rfl, rfl⟩), fun d hd => ⟨d, rfl, bad d hd, rfl⟩⟩, (List.forall_mem_cons.2 ⟨⟨_, _, _, rfl, y_Lw10 Htold_backY, (.inl ⟨rfl, rfl⟩), fun d hd => ⟨d, rfl, bad8 d hd, rfl⟩⟩, (List.forall_mem_cons.2 ⟨⟨_, _, _, rfl, y_Lw11 HjudgedY, (.inl ⟨rfl, rfl⟩), fun d hd => ⟨d, rfl, bad d hd, rfl⟩⟩, (List.forall_mem_cons.2 ⟨⟨_, _, _, rfl, y_Lw12 HWalkerY, (.inl ⟨rfl, rfl⟩), fun d hd => ⟨d, rfl, bad d hd, rfl⟩⟩, (fun _ h => by cases h)⟩)⟩)⟩)⟩)⟩)⟩)⟩)⟩)⟩)⟩)⟩)⟩)⟩), rfl⟩
    have a2 : C__law_all P w K mg base 6 (wh cR cS cP) [.lst [.fn Lw13], .lst [.int 9, .int 60], .int 0] (.d (.bl true)) := ⟨_, _, _, rfl, (by rw [sizeLine_eq]; exact Nat.le_of_ble_eq_true rfl), (List.forall_mem_cons.2 ⟨⟨_, _, _, rfl, y_Lw13 Htold_backY, (.inl ⟨rfl, rfl⟩), fun d hd => ⟨d, rfl, few8 d hd, rfl⟩⟩, (fun _ h => by cases h)⟩), rfl⟩
    clear bad bad8 few8
    generalize strangeD g hugeM = no at c1 c2 a1
    refine hs_asgLO 3 nd (plo_lst (ac_cons (pl_lam0 4 Lw0 TB) (ac_cons (pl_lam0 4 Lw1 TB) (ac_cons (pl_lam0 4 Lw2 TB) ac_nil)))) ?_
    refine hs_asgLO 3 nd (plo_is (plo_catV (xs := [.fn Lw0, .fn Lw1, .fn Lw2]) (ys := [.fn Lw3, .fn Lw4]) 3 (pl_lst (ac_cons (pl_lam0 4 Lw3 TB) (ac_cons (pl_lam0 4 Lw4 TB) ac_nil))) (by rw [sizeLine_eq]; exact Nat.le_of_ble_eq_true rfl)) (ys := [.fn Lw0, .fn Lw1, .fn Lw2, .fn Lw3, .fn Lw4]) rfl) ?_
    refine hs_asgLO 3 nd (plo_is (plo_catV (xs := [.fn Lw0, .fn Lw1, .fn Lw2, .fn Lw3, .fn Lw4]) (ys := [.fn Lw5, .fn Lw6]) 3 (pl_lst (ac_cons (pl_lam0 4 Lw5 TB) (ac_cons (pl_lam0 4 Lw6 TB) ac_nil))) (by rw [sizeLine_eq]; exact Nat.le_of_ble_eq_true rfl)) (ys := [.fn Lw0, .fn Lw1, .fn Lw2, .fn Lw3, .fn Lw4, .fn Lw5, .fn Lw6]) rfl) ?_
    refine hs_asgLO 3 nd (plo_is (plo_catV (xs := [.fn Lw0, .fn Lw1, .fn Lw2, .fn Lw3, .fn Lw4, .fn Lw5, .fn Lw6]) (ys := [.fn Lw7, .fn Lw8, .fn Lw9]) 3 (pl_lst (ac_cons (pl_lam0 4 Lw7 TB) (ac_cons (pl_lam0 4 Lw8 TB) (ac_cons (pl_lam0 4 Lw9 TB) ac_nil)))) (by rw [sizeLine_eq]; exact Nat.le_of_ble_eq_true rfl)) (ys := [.fn Lw0, .fn Lw1, .fn Lw2, .fn Lw3, .fn Lw4, .fn Lw5, .fn Lw6, .fn Lw7, .fn Lw8, .fn Lw9]) rfl) ?_
    refine hs_asgLO 3 nd (plo_is (plo_catV (xs := [.fn Lw0, .fn Lw1, .fn Lw2, .fn Lw3, .fn Lw4, .fn Lw5, .fn Lw6, .fn Lw7, .fn Lw8, .fn Lw9]) (ys := [.fn Lw10, .fn Lw11]) 3 (pl_lst (ac_cons (pl_lam0 4 Lw10 TB) (ac_cons (pl_lam0 4 Lw11 TB) ac_nil))) (by rw [sizeLine_eq]; exact Nat.le_of_ble_eq_true rfl)) (ys := [.fn Lw0, .fn Lw1, .fn Lw2, .fn Lw3, .fn Lw4, .fn Lw5, .fn Lw6, .fn Lw7, .fn Lw8, .fn Lw9, .fn Lw10, .fn Lw11]) rfl) ?_
    refine hs_appL (xs := [.fn Lw0, .fn Lw1, .fn Lw2, .fn Lw3, .fn Lw4, .fn Lw5, .fn Lw6, .fn Lw7, .fn Lw8, .fn Lw9, .fn Lw10, .fn Lw11]) 3 (pl_lam0 4 Lw12 TB) (by rw [sizeLine_eq]; decide) ?_
    refine hs_no (tq_is (tq_not (tq_v (pb_call (H_law_all.mono (by decide)) hr (ab_cons (pb_w (xs := [.fn Lw0, .fn Lw1, .fn Lw2, .fn Lw3, .fn Lw4, .fn Lw5, .fn Lw6, .fn Lw7, .fn Lw8, .fn Lw9, .fn Lw10, .fn Lw11, .fn Lw12]) 3) (ab_cons (pb_o (po_cat (pp_o (po_call (H_law_strange.mono (by decide)) hr (aq_cons (pp_v 2) aq_nil) c1)) (pp_o (po_lst (aq_cons pp_n (aq_cons pp_n (aq_cons (pp_s (pb_add pb_n (pb_v 2))) aq_nil))))) c2)) (ab_cons pb_n ab_nil))) a1))) rfl) ?_
    refine hs_noL (tl_is (tl_not (tl_v (pl_call (H_law_all.mono (by decide)) hr (ac_cons (pl_lst (ac_cons (pl_lam0 4 Lw13 TB) ac_nil)) (ac_cons (pl_p (pp_o (po_lst (aq_cons pp_n (aq_cons pp_n aq_nil))))) (ac_cons (pl_p pp_n) ac_nil))) a2))) rfl) ?_
    refine hs_noL (tl_w (wl_or (tl_is (tl_not (tl_v (pl_callTb 5 H_law_steps_right hr (aq_cons (pp_v 2) aq_nil) ⟨_, rfl, g0, rfl⟩))) rfl) (wl_or1 (tl_is (tl_not (tl_v (pl_callTb 6 H_law_places_right hr (aq_cons (pp_v 2) aq_nil) ⟨_, rfl, g0, rfl⟩))) rfl)))) ?_
    exact hs_nil (.same (.drop (.drop (.drop (.same (.same (.same .nil)))))))
  · rintro _ rfl
    obtain ⟨f1, f2, f3, f4, f5⟩ := end14
    have rs60 : RS 60 [60] := rs_of (by decide)
    have cf1 := ct_far rs60
    rw [f1] at cf1
    have cf2 := ct_far (rs_of (by decide) : RS 1 [1, 2, 3, 4, 5, 6])
    rw [f2] at cf2
    have cn := ct_nearest rs60 (by decide : (0 : Int) ≤ 59) (by decide)
    have k1 := ct_toldC14 (CC := CC) (CN := CN) (rs_of (by decide) : RS 60 [1]) (by decide : (0 : Int) ≤ 59) (by decide) (by decide : (0 : Int) ≤ 0) (by decide) f4
    rw [f5] at k1
    have cl := DCome.cl
    have nw : NoAttr K CC "way" := DCome.na _ (by decide)
    have wok : WkOk (newW 60 [60] 59) := WkOk.new (by decide) (by decide)
    have cg := ct_go (st := newW 60 [60] 59) (a := 0) wok (by decide +kernel) (by decide) (by decide +kernel) (by decide +kernel) (by decide +kernel)
    rw [show (goW (newW 60 [60] 59) 0).here = 59 by decide +kernel] at cg
    generalize hgtM 60 [1] 59 = hh at k1
    generalize cntL 60 [60] 59 = cc at cn f3
    refine hs_no (tq_is (tq_cmp (cr_neS (n := 1) hr (.cons .non (.cons .int (.cons .int .nil)))) (pb_o (po_lst (aq_cons (pp_s (pb_call (Hfar.mono (by decide)) hr (ab_cons pb_n (ab_cons (pb_o (po_lst (aq_cons pp_n aq_nil))) ab_nil)) cf1)) (aq_cons (pp_s (pb_call (Hfar.mono (by decide)) hr (ab_cons pb_n (ab_cons (pb_o (po_lst (aq_cons pp_n (aq_cons pp_n (aq_cons pp_n (aq_cons pp_n (aq_cons pp_n (aq_cons pp_n aq_nil)))))))) ab_nil)) cf2)) (aq_cons (pp_s (pb_ix (pb_call (Hnearest.mono (by decide)) hr (ab_cons pb_n (ab_cons (pb_o (po_lst (aq_cons pp_n aq_nil))) (ab_cons pb_n ab_nil))) cn) pb_n f3)) aq_nil))))) (pb_o (po_lst (aq_cons pp_N (aq_cons pp_n (aq_cons pp_n aq_nil)))))) rfl) ?_
    exact hs_ret (pp_s (pb_is (pb_and (pb_cmp (cr_eqL (a := [0]) (b := [0]) hr) (pb_fld (d := .ints [0]) (pb (pp_toldC (Htold.mono (by decide)) hr (ab_cons pb_n (ab_cons (pb_o (po_lst (aq_cons pp_n aq_nil))) (ab_cons pb_n (ab_cons pb_n ab_nil)))) k1)) cl nw) (pb_o (po_lst (aq_cons pp_n aq_nil)))) fun _ => pb_one (pb_cmp cr_eq (pb_methN (HWalker_go.mono (by decide)) hr (pn_make HWalker___init__ (hr.mono (by decide)) (ab_cons pb_n (ab_cons (pb_o (po_lst (aq_cons pp_n aq_nil))) (ab_cons pb_n ab_nil))) (ct_Walker_init rs60 (by decide) (by decide)) sc_newW) (aq_cons pp_n aq_nil) cg) pb_n)) (d1 := .bl true) rfl)) rfl
end

theorem law_end {l : PySem.W.OpenLaw} {w : World} {K : PySem.W.Frag} {h : Heap} {mg : Str → Option Value} {fa f0 : Addr} {CW CC CN cR cP cS cC cN cY cL cT cA cO cE cdL PL cd_law_steps_right P_law_steps_right cd_law_places_right P_law_places_right : Addr} {oc0 kV0 dc0 pm0 ct0 : Value} {od0 an0 : Option Addr} {sl0 : Array (Option Value)} (X : K.In h) (G : h.Ns mainGlobals mg) (hfa : mg "law" = some (.ref fa))
    (a0 : PySem.W.nsIn K mainGlobals "law" = some (some (.ref f0))) (l0 : K.lookup f0 = some ⟨oc0, od0, .func (PySem.W.fnOf "law" "law" (defArgs s_law) (defBody s_law) (defScope s_law) .none kV0 dc0 pm0 an0 (.ref cdL) ct0), sl0⟩) (c0 : PySem.W.codeIn K (.ref cdL) "law" = true) (k0 : PySem.W.keepIn K (.ref f0) = true) (B : Bi mg)
    (DWalker : Di K mg "Walker" "Walker.__init__" CW s_Walker___init__ ["self", "ring", "steps", "place"] ["ring", "steps", "line", "ways", "counts", "lines"])
    (DCome : Di K mg "Come" "Come.__init__" CC s_Come___init__ ["self", "way", "heights"] ["way", "heights"])
    (DNever : Di K mg "Never" "Never.__init__" CN s_Never___init__ ["self", "part"] ["part"])
    (T4 : Df K mg "is_whole" s_is_whole ["thing"])
    (T5 : Df K mg "within" s_within ["thing", "low", "high"])
    (T6 : DfD K mg "check_ring" s_check_ring ["ring", "most"] [.int 60] [.int 60])
    (T7 : DfD K mg "check_steps" s_check_steps ["steps", "most"] [.int 6] [.int 6])
    (MFARTHEST : Gc mg "FARTHEST" 60)
    (T9 : Df K mg "check_place" s_check_place ["ring", "place"])
    (T10 : Df K mg "is_whole" s_is_whole ["thing"])
    (T11 : Df K mg "within" s_within ["thing", "low", "high"])
    (T12 : DfD K mg "check_ring" s_check_ring ["ring", "most"] [.int 60] [.int 60])
    (Z13 : Exn K mg "BadRing" cR)
    (T14 : Df K mg "check_place" s_check_place ["ring", "place"])
    (Z15 : Exn K mg "BadPlace" cP)
    (T16 : DfD K mg "check_steps" s_check_steps ["steps", "most"] [.int 6] [.int 6])
    (Z17 : Exn K mg "BadSteps" cS)
    (T18 : Df K mg "told" s_told ["ring", "steps", "one", "other"])
    (T19 : Df K mg "nearest" s_nearest ["ring", "steps", "place"])
    (T20 : Df K mg "far" s_far ["ring", "steps"])
    (T21 : Df K mg "check_all" s_check_all ["ring", "steps", "one", "other", "many"])
    (T22 : Df K mg "number_of" s_number_of ["ring", "steps", "way"])
    (T23 : Df K mg "after" s_after ["ring", "steps", "place", "many"])
    (T24 : Df K mg "every" s_every ["ring", "steps"])
    (T25 : Df K mg "twos" s_twos ["ring", "steps"])
    (T26 : Df K mg "judged" s_judged ["ring", "steps", "place", "tale"])
    (T27 : Df K mg "how_many" s_how_many ["ring", "steps", "one", "other", "many"])
    (T28 : Df K mg "way_by" s_way_by ["ring", "steps", "one", "other", "many", "number"])
    (T29 : Df K mg "added" s_added ["ring", "steps"])
    (MMOST_STEPS : Gc mg "MOST_STEPS" 6)
    (T31 : Df K mg "told_back" s_told_back ["ring", "places"])
    (MFEW : Gc mg "FEW" 8)
    (T33 : Df K mg "_law_kinds" s__law_kinds ["_law_error"])
    (Z34 : Mg mg "BadRing" cR)
    (Z35 : Mg mg "BadSteps" cS)
    (Z36 : Mg mg "BadPlace" cP)
    (Z37 : Mg mg "BadCount" cC)
    (Z38 : Mg mg "BadNumber" cN)
    (Z39 : Mg mg "BadWay" cY)
    (Z40 : Mg mg "BadPlaces" cL)
    (Z41 : Mg mg "BadStep" cT)
    (Z42 : Mg mg "BadTale" cA)
    (Z43 : Mg mg "Nothing" cO)
    (Z44 : Nn mg "ValueError")
    (Z45 : ExcC K cR)
    (Z46 : Ko K cR cR true)
    (Z47 : Ko K cR cS false)
    (Z48 : Ko K cR cP false)
    (Z49 : Ko K cR cC false)
    (Z50 : Ko K cR cN false)
    (Z51 : Ko K cR cY false)
    (Z52 : Ko K cR cL false)
    (Z53 : Ko K cR cT false)
    (Z54 : Ko K cR cA false)
    (Z55 : Ko K cR cO false)
    (Z56 : KoT K cR "ValueError" true)
    (Z57 : ExcC K cS)
    (Z58 : Ko K cS cR false)
    (Z59 : Ko K cS cS true)
    (Z60 : Ko K cS cP false)
    (Z61 : Ko K cS cC false)
    (Z62 : Ko K cS cN false)
    (Z63 : Ko K cS cY false)
    (Z64 : Ko K cS cL false)
    (Z65 : Ko K cS cT false)
    (Z66 : Ko K cS cA false)
    (Z67 : Ko K cS cO false)
    (Z68 : KoT K cS "ValueError" true)
    (Z69 : ExcC K cP)
    (Z70 : Ko K cP cR false)
    (Z71 : Ko K cP cS false)
    (Z72 : Ko K cP cP true)
    (Z73 : Ko K cP cC false)
    (Z74 : Ko K cP cN false)
    (Z75 : Ko K cP cY false)
    (Z76 : Ko K cP cL false)
    (Z77 : Ko K cP cT false)
    (Z78 : Ko K cP cA false)
    (Z79 : Ko K cP cO false)
    (Z80 : KoT K cP "ValueError" true)
    (T81 : Df K mg "_law_refused" s__law_refused ["_law_ask", "_law_thing", "_law_which"])
    (Z82 : Mg mg "RoundError" cE)
    (Z83 : Cat K cR cE true)
    (Z84 : Cat K cS cE true)
    (Z85 : Cat K cP cE true)
    (T86 : Df K mg "_law_all" s__law_all ["_law_asks", "_law_things", "_law_which"])
    (T87 : Df K mg "_law_strange" s__law_strange ["_law_great"])
    (T88 : Df K mg "_law_no_steps" s__law_no_steps ["_law_great"])
    (T89 : DfC K mg "_law_steps_right" s__law_steps_right ["_law_great"] cd_law_steps_right)
    (T90 : DfC K mg "_law_places_right" s__law_places_right ["_law_great"] cd_law_places_right)
    (T91 : Df K mg "spread" s_spread ["ring", "steps", "place"])
    (T92 : Df K mg "far_of" s_far_of ["ring", "steps"])
    (T93 : Df K mg "far" s_far ["ring", "steps"])
    (T94 : Df K mg "nearest" s_nearest ["ring", "steps", "place"])
    (T95 : Df K mg "common" s_common ["one", "other"])
    (T96 : Df K mg "common_of" s_common_of ["numbers"])
    (T97 : Df K mg "end_of" s_end_of ["ring", "steps", "place", "way"])
    (T98 : Dm K CC "shows" "Come.shows" s_Come_shows ["self", "ring", "steps", "one", "other"])
    (T99 : Dm K CN "shows" "Never.shows" s_Never_shows ["self", "ring", "steps", "one", "other"])
    (T100 : Df K mg "way_back" s_way_back ["ring", "steps", "last", "one", "other"])
    (T101 : Df K mg "told" s_told ["ring", "steps", "one", "other"])
    (T102 : Dm K CW "stand" "Walker.stand" s_Walker_stand ["self", "word"])
    (T103 : Dm K CW "go" "Walker.go" s_Walker_go ["self", "step"])
    (T104 : Dm K CW "back" "Walker.back" s_Walker_back ["self"])
    (ndT : [PL, P_law_steps_right, P_law_places_right].Nodup) (nT : ∀ p ∈ ([(cdL, PL), (cd_law_steps_right, P_law_steps_right), (cd_law_places_right, P_law_places_right)] : List (Addr × Addr)), K.lookup p.2 = none) (hC : ∀ p ∈ ([(cdL, PL), (cd_law_steps_right, P_law_steps_right), (cd_law_places_right, P_law_places_right)] : List (Addr × Addr)), PySem.W.CodeHd h p.1 p.2 ∧ h.get? p.2 = some (PySem.W.tabObj #[])) :
    ∃ (fd : FuncData) (cs : List (Addr × Addr)) (T : List (Addr × Str)), (∀ p ∈ T, ∃ y ∈ cs, y.2 = p.1) ∧ (∀ p ∈ cs, K.lookup p.2 = none) ∧ (∀ p ∈ cs, PySem.W.CodeHd h p.1 p.2 ∧ h.get? p.2 = some (PySem.W.tabObj #[])) ∧ (∀ (s : Shared) (v : Value), BindsTo s fd ⟨[v], []⟩ [("_law_script", v)]) ∧ ∀ base : Heap, K.In base → base.Ns mainGlobals mg → (∀ p ∈ cs, LamX.TabB base mg p.1 p.2) → FnOk l.prog w K mg base CX0 10 fa fd ["_law_script"] (spLaw K T) := by
  have e := hfa.symm.trans (PySem.W.mg_of X G a0)
  cases e
  refine ⟨PySem.W.fnOf "law" "law" (defArgs s_law) (defBody s_law) (defScope s_law) .none kV0 dc0 pm0 an0 (.ref cdL) ct0, [(cdL, PL), (cd_law_steps_right, P_law_steps_right), (cd_law_places_right, P_law_places_right)], [(PL, q_w), (P_law_steps_right, q_s), (P_law_places_right, q_p)], by simp, nT, hC, fun s v => .of_eq rfl, fun base _ _ hTB => ?_⟩
  have INever := init1 (P := l.prog) (w := w) (base := base) DNever sc_Never___init__
  have His_whole := h_is_whole (P := l.prog) (w := w) (base := base) B T4
  have Hwithin := h_within (P := l.prog) (w := w) (base := base) B T5 His_whole
  have Hcheck_ring := (h_check_ring (P := l.prog) (w := w) (base := base) B T6 Hwithin).1
  have Hcheck_ring2 := (h_check_ring (P := l.prog) (w := w) (base := base) B T6 Hwithin).2
  have Hcheck_steps := (h_check_steps (P := l.prog) (w := w) (base := base) B T7 MFARTHEST Hwithin).1
  have Hcheck_steps2 := (h_check_steps (P := l.prog) (w := w) (base := base) B T7 MFARTHEST Hwithin).2
  have Hcheck_place := h_check_place (P := l.prog) (w := w) (base := base) B T9 Hwithin
  have His_wholeG := h_is_wholeG (P := l.prog) (w := w) (base := base) B T10
  have HwithinG := h_withinG (P := l.prog) (w := w) (base := base) B T11 His_wholeG
  have Hcheck_ringY := (h_check_ringY (P := l.prog) (w := w) (base := base) B T12 Z13 HwithinG).1
  have Hcheck_ringY2 := (h_check_ringY (P := l.prog) (w := w) (base := base) B T12 Z13 HwithinG).2
  have Hcheck_placeY := h_check_placeY (P := l.prog) (w := w) (base := base) B T14 Z15 HwithinG
  have Hcheck_stepsY := (h_check_stepsY (P := l.prog) (w := w) (base := base) B T16 Z17 MFARTHEST HwithinG).1
  have Hcheck_stepsY2 := (h_check_stepsY (P := l.prog) (w := w) (base := base) B T16 Z17 MFARTHEST HwithinG).2
  have HtoldY := h_toldY (P := l.prog) (w := w) (base := base) B T18 Hcheck_ring Hcheck_steps Hcheck_place Hcheck_ringY Hcheck_stepsY Hcheck_placeY
  have HnearestY := h_nearestY (P := l.prog) (w := w) (base := base) B T19 Hcheck_ring Hcheck_steps Hcheck_place Hcheck_ringY Hcheck_stepsY Hcheck_placeY
  have HfarY := h_farY (P := l.prog) (w := w) (base := base) B T20 Hcheck_ring Hcheck_ringY Hcheck_stepsY
  have Hcheck_allY := h_check_allY (P := l.prog) (w := w) (base := base) B T21 Hcheck_ring Hcheck_steps Hcheck_place Hcheck_ringY Hcheck_stepsY Hcheck_placeY
  have Hnumber_ofY := h_number_ofY (P := l.prog) (w := w) (base := base) B T22 Hcheck_ring Hcheck_ringY Hcheck_stepsY
  have HafterY := h_afterY (P := l.prog) (w := w) (base := base) B T23 Hcheck_ring Hcheck_steps Hcheck_place Hcheck_ringY Hcheck_stepsY Hcheck_placeY
  have HeveryY := h_everyY (P := l.prog) (w := w) (base := base) B T24 Hcheck_ring Hcheck_ringY Hcheck_stepsY
  have HtwosY := h_twosY (P := l.prog) (w := w) (base := base) B T25 Hcheck_ring Hcheck_ringY Hcheck_stepsY
  have HjudgedY := h_judgedY (P := l.prog) (w := w) (base := base) B T26 Hcheck_ring Hcheck_steps Hcheck_place Hcheck_ringY Hcheck_stepsY Hcheck_placeY
  have HWalkerY := h_WalkerY (P := l.prog) (w := w) (base := base) B DWalker Hcheck_ring Hcheck_steps Hcheck_place Hcheck_ringY Hcheck_stepsY Hcheck_placeY
  have Hhow_manyY := h_how_manyY (P := l.prog) (w := w) (base := base) B T27 Hcheck_allY
  have Hway_byY := h_way_byY (P := l.prog) (w := w) (base := base) B T28 Hcheck_allY
  have HaddedY := h_addedY (P := l.prog) (w := w) (base := base) B T29 MMOST_STEPS Hcheck_ring Hcheck_ringY Hcheck_stepsY2
  have Htold_backY := h_told_backY (P := l.prog) (w := w) (base := base) B T31 MFEW Hcheck_ringY2
  have H_law_kinds := h__law_kinds (P := l.prog) (w := w) (base := base) B T33 Z34 Z35 Z36 Z37 Z38 Z39 Z40 Z41 Z42 Z43 Z44 Z45 Z46 Z47 Z48 Z49 Z50 Z51 Z52 Z53 Z54 Z55 Z56 Z57 Z58 Z59 Z60 Z61 Z62 Z63 Z64 Z65 Z66 Z67 Z68 Z69 Z70 Z71 Z72 Z73 Z74 Z75 Z76 Z77 Z78 Z79 Z80
  have H_law_refused := h__law_refused (P := l.prog) (w := w) (base := base) B T81 Z82 Z83 Z84 Z85 H_law_kinds
  have H_law_all := h__law_all (P := l.prog) (w := w) (base := base) B T86 H_law_refused
  have H_law_strange := h__law_strange (P := l.prog) (w := w) (base := base) B T87
  have H_law_no_steps := h__law_no_steps (P := l.prog) (w := w) (base := base) B T88 H_law_strange
  have H_law_steps_right := h__law_steps_right (P := l.prog) (w := w) (base := base) B T89 (hTB (cd_law_steps_right, P_law_steps_right) (by simp)) H_law_all H_law_no_steps HtoldY HnearestY HfarY Hhow_manyY Hway_byY Hnumber_ofY HafterY HeveryY HaddedY HtwosY HjudgedY HWalkerY
  have H_law_places_right := h__law_places_right (P := l.prog) (w := w) (base := base) B T90 (hTB (cd_law_places_right, P_law_places_right) (by simp)) H_law_all H_law_strange HtoldY HnearestY Hhow_manyY Hway_byY HafterY HjudgedY HWalkerY
  have Hspread := h_spread (P := l.prog) (w := w) (base := base) B T91
  have Hfar_of := h_far_of (P := l.prog) (w := w) (base := base) B T92 Hspread
  have Hfar := h_far (P := l.prog) (w := w) (base := base) B T93 Hcheck_ring Hcheck_steps Hfar_of
  have Hnearest := h_nearest (P := l.prog) (w := w) (base := base) B T94 Hcheck_ring Hcheck_steps Hcheck_place Hspread
  have Hcommon := h_common (P := l.prog) (w := w) (base := base) B T95
  have Hcommon_of := h_common_of (P := l.prog) (w := w) (base := base) B T96 Hcommon
  have Hend_of := h_end_of (P := l.prog) (w := w) (base := base) B T97
  have HCome___init__ := h_Come___init__ (P := l.prog) (w := w) (base := base) B DCome
  have HCome_shows := h_Come_shows (P := l.prog) (w := w) (base := base) B T98 DCome Hend_of
  have HNever_shows := h_Never_shows (P := l.prog) (w := w) (base := base) B T99 DNever
  have Hway_back := h_way_back (P := l.prog) (w := w) (base := base) B T100
  have Htold := h_told (P := l.prog) (w := w) (base := base) B T101 Hcheck_ring Hcheck_steps Hcheck_place Hspread Hcommon_of Hway_back INever HCome___init__
  have HWalker___init__ := h_Walker___init__ (P := l.prog) (w := w) (base := base) B DWalker Hcheck_ring Hcheck_steps Hcheck_place
  have HWalker_stand := h_Walker_stand (P := l.prog) (w := w) (base := base) B T102 DWalker
  have HWalker_go := h_Walker_go (P := l.prog) (w := w) (base := base) B T103 DWalker Hwithin HWalker_stand
  have HWalker_back := h_Walker_back (P := l.prog) (w := w) (base := base) B T104 DWalker HWalker_stand
  exact h_law (P := l.prog) (w := w) (base := base) B l0 c0 (hTB (cdL, PL) (by simp)) ndT H_law_all H_law_strange H_law_steps_right H_law_places_right HtoldY HnearestY HfarY Hhow_manyY Hway_byY Hnumber_ofY HafterY HeveryY HaddedY HtwosY Htold_backY HjudgedY HWalkerY Hfar Hnearest Htold DCome HWalker___init__ HWalker_go
end R
open PySem PySem.W PyProof.Rows
set_option maxRecDepth 100000 in
set_option maxHeartbeats 0 in
theorem PySem.Challenge.cw_roundsteps_k14_refused_rings_holds : PySem.Challenge.rw_roundsteps_k14_refused_rings.Holds := by
  w_on; o_law; k_head; (case hw => w_witness2)
  k_fill
  refine DL.walk_tab (l := PySem.Challenge.rw_roundsteps_k14_refused_rings) (n := 63) (k := 10) (x := "_law_script") rfl (by decide) rfl ⟨rfl, by decide, by decide⟩ (fun w h Y => Y.1) ?F
  case F =>
    intro w mg mb mean fa h T KX G hmg
    refine' R.law_end (PL := 665) (P_law_steps_right := 651) (P_law_places_right := 658) KX G hmg ?a0 ?l0 ?c0 ?k0 (DL.Bi.mk (PySem.W.mg_none_of KX G ?z0) (PySem.W.mg_none_of KX G ?z1) (PySem.W.mg_none_of KX G ?z2) (PySem.W.mg_none_of KX G ?z3) (PySem.W.mg_none_of KX G ?z4) (PySem.W.mg_none_of KX G ?z5) (PySem.W.mg_none_of KX G ?z6) (PySem.W.mg_none_of KX G ?z7) (PySem.W.mg_none_of KX G ?z8) (PySem.W.mg_none_of KX G ?z9) (PySem.W.mg_none_of KX G ?z10) (PySem.W.mg_none_of KX G ?z11) (PySem.W.mg_none_of KX G ?z12) (PySem.W.mg_none_of KX G ?z13) (PySem.W.mg_none_of KX G ?z14) (PySem.W.mg_none_of KX G ?z15) (PySem.W.mg_none_of KX G ?z16) (PySem.W.mg_none_of KX G ?z17)) (DL.di_mk KX G ?a1 ?i1 ?l1 ?c1 ?k1 ?f1 ?m1 ?q1 ⟨?pg1, ?hd1, ?po1, ?sa1⟩ (DL.na_cons ?n1_0 (DL.na_cons ?n1_1 (DL.na_cons ?n1_2 (DL.na_cons ?n1_3 (DL.na_cons ?n1_4 (DL.na_cons ?n1_5 DL.na_nil)))))) (fun _ _ _ _ _ _ us hl => match us, hl with | [_, _, _, _], _ => rfl)) (DL.di_mk KX G ?a2 ?i2 ?l2 ?c2 ?k2 ?f2 ?m2 ?q2 ⟨?pg2, ?hd2, ?po2, ?sa2⟩ (DL.na_cons ?n2_0 (DL.na_cons ?n2_1 DL.na_nil)) (fun _ _ _ _ _ _ us hl => match us, hl with | [_, _, _], _ => rfl)) (DL.di_mk KX G ?a3 ?i3 ?l3 ?c3 ?k3 ?f3 ?m3 ?q3 ⟨?pg3, ?hd3, ?po3, ?sa3⟩ (DL.na_cons ?n3_0 DL.na_nil) (fun _ _ _ _ _ _ us hl => match us, hl with | [_, _], _ => rfl)) (DL.df_mk KX G ?a4 ?l4 ?c4 ?k4 (fun _ _ _ _ _ _ us hl => match us, hl with | [_], _ => rfl)) (DL.df_mk KX G ?a5 ?l5 ?c5 ?k5 (fun _ _ _ _ _ _ us hl => match us, hl with | [_, _, _], _ => rfl)) (DL.dfD_mk KX G ?a6 ?l6 ?c6 ?k6 ?t6 ?o6 (fun _ _ _ _ _ _ _ us its hu hi => match us, its, hu, hi with | [_], [_], _, _ => ⟨_, rfl, rfl⟩) (fun _ _ _ _ _ _ _ us its hu hi => match us, its, hu, hi with | [_, _], [_], _, _ => ⟨_, rfl, rfl⟩)) (DL.dfD_mk KX G ?a7 ?l7 ?c7 ?k7 ?t7 ?o7 (fun _ _ _ _ _ _ _ us its hu hi => match us, its, hu, hi with | [_], [_], _, _ => ⟨_, rfl, rfl⟩) (fun _ _ _ _ _ _ _ us its hu hi => match us, its, hu, hi with | [_, _], [_], _, _ => ⟨_, rfl, rfl⟩)) (DL.gc_mk KX G ?a8) (DL.df_mk KX G ?a9 ?l9 ?c9 ?k9 (fun _ _ _ _ _ _ us hl => match us, hl with | [_, _], _ => rfl)) (DL.df_mk KX G ?a10 ?l10 ?c10 ?k10 (fun _ _ _ _ _ _ us hl => match us, hl with | [_], _ => rfl)) (DL.df_mk KX G ?a11 ?l11 ?c11 ?k11 (fun _ _ _ _ _ _ us hl => match us, hl with | [_, _, _], _ => rfl)) (DL.dfD_mk KX G ?a12 ?l12 ?c12 ?k12 ?t12 ?o12 (fun _ _ _ _ _ _ _ us its hu hi => match us, its, hu, hi with | [_], [_], _, _ => ⟨_, rfl, rfl⟩) (fun _ _ _ _ _ _ _ us its hu hi => match us, its, hu, hi with | [_, _], [_], _, _ => ⟨_, rfl, rfl⟩)) (DL.exn_mk KX G ?a13 ?kexc13 ?k13 ?b13 ?t13) (DL.df_mk KX G ?a14 ?l14 ?c14 ?k14 (fun _ _ _ _ _ _ us hl => match us, hl with | [_, _], _ => rfl)) (DL.exn_mk KX G ?a15 ?kexc15 ?k15 ?b15 ?t15) (DL.dfD_mk KX G ?a16 ?l16 ?c16 ?k16 ?t16 ?o16 (fun _ _ _ _ _ _ _ us its hu hi => match us, its, hu, hi with | [_], [_], _, _ => ⟨_, rfl, rfl⟩) (fun _ _ _ _ _ _ _ us its hu hi => match us, its, hu, hi with | [_, _], [_], _, _ => ⟨_, rfl, rfl⟩)) (DL.exn_mk KX G ?a17 ?kexc17 ?k17 ?b17 ?t17) (DL.df_mk KX G ?a18 ?l18 ?c18 ?k18 (fun _ _ _ _ _ _ us hl => match us, hl with | [_, _, _, _], _ => rfl)) (DL.df_mk KX G ?a19 ?l19 ?c19 ?k19 (fun _ _ _ _ _ _ us hl => match us, hl with | [_, _, _], _ => rfl)) (DL.df_mk KX G ?a20 ?l20 ?c20 ?k20 (fun _ _ _ _ _ _ us hl => match us, hl with | [_, _], _ => rfl)) (DL.df_mk KX G ?a21 ?l21 ?c21 ?k21 (fun _ _ _ _ _ _ us hl => match us, hl with | [_, _, _, _, _], _ => rfl)) (DL.df_mk KX G ?a22 ?l22 ?c22 ?k22 (fun _ _ _ _ _ _ us hl => match us, hl with | [_, _, _], _ => rfl)) (DL.df_mk KX G ?a23 ?l23 ?c23 ?k23 (fun _ _ _ _ _ _ us hl => match us, hl with | [_, _, _, _], _ => rfl)) (DL.df_mk KX G ?a24 ?l24 ?c24 ?k24 (fun _ _ _ _ _ _ us hl => match us, hl with | [_, _], _ => rfl)) (DL.df_mk KX G ?a25 ?l25 ?c25 ?k25 (fun _ _ _ _ _ _ us hl => match us, hl with | [_, _], _ => rfl)) (DL.df_mk KX G ?a26 ?l26 ?c26 ?k26 (fun _ _ _ _ _ _ us hl => match us, hl with | [_, _, _, _], _ => rfl)) (DL.df_mk KX G ?a27 ?l27 ?c27 ?k27 (fun _ _ _ _ _ _ us hl => match us, hl with | [_, _, _, _, _], _ => rfl)) (DL.df_mk KX G ?a28 ?l28 ?c28 ?k28 (fun _ _ _ _ _ _ us hl => match us, hl with | [_, _, _, _, _, _], _ => rfl)) (DL.df_mk KX G ?a29 ?l29 ?c29 ?k29 (fun _ _ _ _ _ _ us hl => match us, hl with | [_, _], _ => rfl)) (DL.gc_mk KX G ?a30) (DL.df_mk KX G ?a31 ?l31 ?c31 ?k31 (fun _ _ _ _ _ _ us hl => match us, hl with | [_, _], _ => rfl)) (DL.gc_mk KX G ?a32) (DL.df_mk KX G ?a33 ?l33 ?c33 ?k33 (fun _ _ _ _ _ _ us hl => match us, hl with | [_], _ => rfl)) (DL.mg_mk KX G ?mg34) (DL.mg_mk KX G ?mg35) (DL.mg_mk KX G ?mg36) (DL.mg_mk KX G ?mg37) (DL.mg_mk KX G ?mg38) (DL.mg_mk KX G ?mg39) (DL.mg_mk KX G ?mg40) (DL.mg_mk KX G ?mg41) (DL.mg_mk KX G ?mg42) (DL.mg_mk KX G ?mg43) ⟨PySem.W.mg_none_of KX G ?nn44⟩ (DL.excC_mk ?e0_45 ?e1_45 ?e2_45 ?e3_45 ?e4_45 ?e5_45 ?e6_45 ?e7_45) ⟨?kt46⟩ ⟨?kt47⟩ ⟨?kt48⟩ ⟨?kt49⟩ ⟨?kt50⟩ ⟨?kt51⟩ ⟨?kt52⟩ ⟨?kt53⟩ ⟨?kt54⟩ ⟨?kt55⟩ ⟨?kt56⟩ (DL.excC_mk ?e0_57 ?e1_57 ?e2_57 ?e3_57 ?e4_57 ?e5_57 ?e6_57 ?e7_57) ⟨?kt58⟩ ⟨?kt59⟩ ⟨?kt60⟩ ⟨?kt61⟩ ⟨?kt62⟩ ⟨?kt63⟩ ⟨?kt64⟩ ⟨?kt65⟩ ⟨?kt66⟩ ⟨?kt67⟩ ⟨?kt68⟩ (DL.excC_mk ?e0_69 ?e1_69 ?e2_69 ?e3_69 ?e4_69 ?e5_69 ?e6_69 ?e7_69) ⟨?kt70⟩ ⟨?kt71⟩ ⟨?kt72⟩ ⟨?kt73⟩ ⟨?kt74⟩ ⟨?kt75⟩ ⟨?kt76⟩ ⟨?kt77⟩ ⟨?kt78⟩ ⟨?kt79⟩ ⟨?kt80⟩ (DL.df_mk KX G ?a81 ?l81 ?c81 ?k81 (fun _ _ _ _ _ _ us hl => match us, hl with | [_, _, _], _ => rfl)) (DL.mg_mk KX G ?mg82) (DL.cat_mk ?b83 ?h83 ?t83 ?ksub83) (DL.cat_mk ?b84 ?h84 ?t84 ?ksub84) (DL.cat_mk ?b85 ?h85 ?t85 ?ksub85) (DL.df_mk KX G ?a86 ?l86 ?c86 ?k86 (fun _ _ _ _ _ _ us hl => match us, hl with | [_, _, _], _ => rfl)) (DL.df_mk KX G ?a87 ?l87 ?c87 ?k87 (fun _ _ _ _ _ _ us hl => match us, hl with | [_], _ => rfl)) (DL.df_mk KX G ?a88 ?l88 ?c88 ?k88 (fun _ _ _ _ _ _ us hl => match us, hl with | [_], _ => rfl)) (DL.dfC_mk KX G ?a89 ?l89 ?c89 ?k89 (fun _ _ _ _ _ _ us hl => match us, hl with | [_], _ => rfl)) (DL.dfC_mk KX G ?a90 ?l90 ?c90 ?k90 (fun _ _ _ _ _ _ us hl => match us, hl with | [_], _ => rfl)) (DL.df_mk KX G ?a91 ?l91 ?c91 ?k91 (fun _ _ _ _ _ _ us hl => match us, hl with | [_, _, _], _ => rfl)) (DL.df_mk KX G ?a92 ?l92 ?c92 ?k92 (fun _ _ _ _ _ _ us hl => match us, hl with | [_, _], _ => rfl)) (DL.df_mk KX G ?a93 ?l93 ?c93 ?k93 (fun _ _ _ _ _ _ us hl => match us, hl with | [_, _], _ => rfl)) (DL.df_mk KX G ?a94 ?l94 ?c94 ?k94 (fun _ _ _ _ _ _ us hl => match us, hl with | [_, _, _], _ => rfl)) (DL.df_mk KX G ?a95 ?l95 ?c95 ?k95 (fun _ _ _ _ _ _ us hl => match us, hl with | [_, _], _ => rfl)) (DL.df_mk KX G ?a96 ?l96 ?c96 ?k96 (fun _ _ _ _ _ _ us hl => match us, hl with | [_], _ => rfl)) (DL.df_mk KX G ?a97 ?l97 ?c97 ?k97 (fun _ _ _ _ _ _ us hl => match us, hl with | [_, _, _, _], _ => rfl)) (DL.dm_mk ?i98 ?l98 ?c98 ?k98 ?f98 ⟨?pg98, ?hd98, ?po98, ?sa98⟩ (fun _ _ _ _ _ _ us hl => match us, hl with | [_, _, _, _, _], _ => rfl)) (DL.dm_mk ?i99 ?l99 ?c99 ?k99 ?f99 ⟨?pg99, ?hd99, ?po99, ?sa99⟩ (fun _ _ _ _ _ _ us hl => match us, hl with | [_, _, _, _, _], _ => rfl)) (DL.df_mk KX G ?a100 ?l100 ?c100 ?k100 (fun _ _ _ _ _ _ us hl => match us, hl with | [_, _, _, _, _], _ => rfl)) (DL.df_mk KX G ?a101 ?l101 ?c101 ?k101 (fun _ _ _ _ _ _ us hl => match us, hl with | [_, _, _, _], _ => rfl)) (DL.dm_mk ?i102 ?l102 ?c102 ?k102 ?f102 ⟨?pg102, ?hd102, ?po102, ?sa102⟩ (fun _ _ _ _ _ _ us hl => match us, hl with | [_, _], _ => rfl)) (DL.dm_mk ?i103 ?l103 ?c103 ?k103 ?f103 ⟨?pg103, ?hd103, ?po103, ?sa103⟩ (fun _ _ _ _ _ _ us hl => match us, hl with | [_, _], _ => rfl)) (DL.dm_mk ?i104 ?l104 ?c104 ?k104 ?f104 ⟨?pg104, ?hd104, ?po104, ?sa104⟩ (fun _ _ _ _ _ _ us hl => match us, hl with | [_], _ => rfl)) ?ndT (List.forall_mem_cons.mpr ⟨?nt0, List.forall_mem_cons.mpr ⟨?nt1, List.forall_mem_cons.mpr ⟨?nt2, fun _ hz => absurd hz List.not_mem_nil⟩⟩⟩) (List.forall_mem_cons.mpr ⟨PySem.W.tab_of (x := "law") T KX rfl ?ta0, List.forall_mem_cons.mpr ⟨PySem.W.tab_of (x := "_law_steps_right") T KX rfl ?ta1, List.forall_mem_cons.mpr ⟨PySem.W.tab_of (x := "_law_places_right") T KX rfl ?ta2, fun _ hz => absurd hz List.not_mem_nil⟩⟩⟩)
    case a0 => k_is
    case l0 => k_is
    case c0 => k_is
    case k0 => k_is
    case a1 => k_is
    case i1 => k_is
    case l1 => k_is
    case c1 => k_is
    case k1 => k_is
    case f1 => k_is
    case m1 => k_is
    case q1 => k_is
    case pg1 => k_is
    case hd1 => k_is
    case po1 => k_is
    case sa1 => k_is
    case n1_0 => k_is
    case n1_1 => k_is
    case n1_2 => k_is
    case n1_3 => k_is
    case n1_4 => k_is
    case n1_5 => k_is
    case a2 => k_is
    case i2 => k_is
    case l2 => k_is
    case c2 => k_is
    case k2 => k_is
    case f2 => k_is
    case m2 => k_is
    case q2 => k_is
    case pg2 => k_is
    case hd2 => k_is
    case po2 => k_is
    case sa2 => k_is
    case n2_0 => k_is
    case n2_1 => k_is
    case a3 => k_is
    case i3 => k_is
    case l3 => k_is
    case c3 => k_is
    case k3 => k_is
    case f3 => k_is
    case m3 => k_is
    case q3 => k_is
    case pg3 => k_is
    case hd3 => k_is
    case po3 => k_is
    case sa3 => k_is
    case n3_0 => k_is
    case a4 => k_is
    case l4 => k_is
    case c4 => k_is
    case k4 => k_is
    case a5 => k_is
    case l5 => k_is
    case c5 => k_is
    case k5 => k_is
    case a6 => k_is
    case l6 => k_is
    case c6 => k_is
    case k6 => k_is
    case t6 => k_is
    case o6 => rfl
    case a7 => k_is
    case l7 => k_is
    case c7 => k_is
    case k7 => k_is
    case t7 => k_is
    case o7 => rfl
    case a8 => k_is
    case a9 => k_is
    case l9 => k_is
    case c9 => k_is
    case k9 => k_is
    case a10 => k_is
    case l10 => k_is
    case c10 => k_is
    case k10 => k_is
    case a11 => k_is
    case l11 => k_is
    case c11 => k_is
    case k11 => k_is
    case a12 => k_is
    case l12 => k_is
    case c12 => k_is
    case k12 => k_is
    case t12 => k_is
    case o12 => rfl
    case a13 => k_is
    case kexc13 => k_exc
    case k13 => k_is
    case b13 => k_is
    case t13 => k_is
    case a14 => k_is
    case l14 => k_is
    case c14 => k_is
    case k14 => k_is
    case a15 => k_is
    case kexc15 => k_exc
    case k15 => k_is
    case b15 => k_is
    case t15 => k_is
    case a16 => k_is
    case l16 => k_is
    case c16 => k_is
    case k16 => k_is
    case t16 => k_is
    case o16 => rfl
    case a17 => k_is
    case kexc17 => k_exc
    case k17 => k_is
    case b17 => k_is
    case t17 => k_is
    case a18 => k_is
    case l18 => k_is
    case c18 => k_is
    case k18 => k_is
    case a19 => k_is
    case l19 => k_is
    case c19 => k_is
    case k19 => k_is
    case a20 => k_is
    case l20 => k_is
    case c20 => k_is
    case k20 => k_is
    case a21 => k_is
    case l21 => k_is
    case c21 => k_is
    case k21 => k_is
    case a22 => k_is
    case l22 => k_is
    case c22 => k_is
    case k22 => k_is
    case a23 => k_is
    case l23 => k_is
    case c23 => k_is
    case k23 => k_is
    case a24 => k_is
    case l24 => k_is
    case c24 => k_is
    case k24 => k_is
    case a25 => k_is
    case l25 => k_is
    case c25 => k_is
    case k25 => k_is
    case a26 => k_is
    case l26 => k_is
    case c26 => k_is
    case k26 => k_is
    case a27 => k_is
    case l27 => k_is
    case c27 => k_is
    case k27 => k_is
    case a28 => k_is
    case l28 => k_is
    case c28 => k_is
    case k28 => k_is
    case a29 => k_is
    case l29 => k_is
    case c29 => k_is
    case k29 => k_is
    case a30 => k_is
    case a31 => k_is
    case l31 => k_is
    case c31 => k_is
    case k31 => k_is
    case a32 => k_is
    case a33 => k_is
    case l33 => k_is
    case c33 => k_is
    case k33 => k_is
    case mg34 => k_is
    case mg35 => k_is
    case mg36 => k_is
    case mg37 => k_is
    case mg38 => k_is
    case mg39 => k_is
    case mg40 => k_is
    case mg41 => k_is
    case mg42 => k_is
    case mg43 => k_is
    case nn44 => k_is
    case e0_45 => k_is
    case e1_45 => k_is
    case e2_45 => k_is
    case e3_45 => k_is
    case e4_45 => k_is
    case e5_45 => k_is
    case e6_45 => k_is
    case e7_45 => k_is
    case kt46 => kit_is
    case kt47 => kit_is
    case kt48 => kit_is
    case kt49 => kit_is
    case kt50 => kit_is
    case kt51 => kit_is
    case kt52 => kit_is
    case kt53 => kit_is
    case kt54 => kit_is
    case kt55 => kit_is
    case kt56 => kit_is
    case e0_57 => k_is
    case e1_57 => k_is
    case e2_57 => k_is
    case e3_57 => k_is
    case e4_57 => k_is
    case e5_57 => k_is
    case e6_57 => k_is
    case e7_57 => k_is
    case kt58 => kit_is
    case kt59 => kit_is
    case kt60 => kit_is
    case kt61 => kit_is
    case kt62 => kit_is
    case kt63 => kit_is
    case kt64 => kit_is
    case kt65 => kit_is
    case kt66 => kit_is
    case kt67 => kit_is
    case kt68 => kit_is
    case e0_69 => k_is
    case e1_69 => k_is
    case e2_69 => k_is
    case e3_69 => k_is
    case e4_69 => k_is
    case e5_69 => k_is
    case e6_69 => k_is
    case e7_69 => k_is
    case kt70 => kit_is
    case kt71 => kit_is
    case kt72 => kit_is
    case kt73 => kit_is
    case kt74 => kit_is
    case kt75 => kit_is
    case kt76 => kit_is
    case kt77 => kit_is
    case kt78 => kit_is
    case kt79 => kit_is
    case kt80 => kit_is
    case a81 => k_is
    case l81 => k_is
    case c81 => k_is
    case k81 => k_is
    case mg82 => k_is
    case b83 => k_is
    case h83 => k_is
    case t83 => k_is
    case ksub83 => (first | rfl | k_is)
    case b84 => k_is
    case h84 => k_is
    case t84 => k_is
    case ksub84 => (first | rfl | k_is)
    case b85 => k_is
    case h85 => k_is
    case t85 => k_is
    case ksub85 => (first | rfl | k_is)
    case a86 => k_is
    case l86 => k_is
    case c86 => k_is
    case k86 => k_is
    case a87 => k_is
    case l87 => k_is
    case c87 => k_is
    case k87 => k_is
    case a88 => k_is
    case l88 => k_is
    case c88 => k_is
    case k88 => k_is
    case a89 => k_is
    case l89 => k_is
    case c89 => k_is
    case k89 => k_is
    case a90 => k_is
    case l90 => k_is
    case c90 => k_is
    case k90 => k_is
    case a91 => k_is
    case l91 => k_is
    case c91 => k_is
    case k91 => k_is
    case a92 => k_is
    case l92 => k_is
    case c92 => k_is
    case k92 => k_is
    case a93 => k_is
    case l93 => k_is
    case c93 => k_is
    case k93 => k_is
    case a94 => k_is
    case l94 => k_is
    case c94 => k_is
    case k94 => k_is
    case a95 => k_is
    case l95 => k_is
    case c95 => k_is
    case k95 => k_is
    case a96 => k_is
    case l96 => k_is
    case c96 => k_is
    case k96 => k_is
    case a97 => k_is
    case l97 => k_is
    case c97 => k_is
    case k97 => k_is
    case i98 => k_is
    case l98 => k_is
    case c98 => k_is
    case k98 => k_is
    case f98 => k_is
    case pg98 => k_is
    case hd98 => k_is
    case po98 => k_is
    case sa98 => k_is
    case i99 => k_is
    case l99 => k_is
    case c99 => k_is
    case k99 => k_is
    case f99 => k_is
    case pg99 => k_is
    case hd99 => k_is
    case po99 => k_is
    case sa99 => k_is
    case a100 => k_is
    case l100 => k_is
    case c100 => k_is
    case k100 => k_is
    case a101 => k_is
    case l101 => k_is
    case c101 => k_is
    case k101 => k_is
    case i102 => k_is
    case l102 => k_is
    case c102 => k_is
    case k102 => k_is
    case f102 => k_is
    case pg102 => k_is
    case hd102 => k_is
    case po102 => k_is
    case sa102 => k_is
    case i103 => k_is
    case l103 => k_is
    case c103 => k_is
    case k103 => k_is
    case f103 => k_is
    case pg103 => k_is
    case hd103 => k_is
    case po103 => k_is
    case sa103 => k_is
    case i104 => k_is
    case l104 => k_is
    case c104 => k_is
    case k104 => k_is
    case f104 => k_is
    case pg104 => k_is
    case hd104 => k_is
    case po104 => k_is
    case sa104 => k_is
    case ta0 => (first | kernel_rfl | k_is)
    case ta1 => (first | kernel_rfl | k_is)
    case ta2 => (first | kernel_rfl | k_is)
    case nt0 => (first | kernel_rfl | k_is)
    case nt1 => (first | kernel_rfl | k_is)
    case nt2 => (first | kernel_rfl | k_is)
    case ndT => decide
    case z0 => k_is
    case z1 => k_is
    case z2 => k_is
    case z3 => k_is
    case z4 => k_is
    case z5 => k_is
    case z6 => k_is
    case z7 => k_is
    case z8 => k_is
    case z9 => k_is
    case z10 => k_is
    case z11 => k_is
    case z12 => k_is
    case z13 => k_is
    case z14 => k_is
    case z15 => k_is
    case z16 => k_is
    case z17 => k_is
#print axioms PySem.Challenge.cw_roundsteps_k14_refused_rings_holds
