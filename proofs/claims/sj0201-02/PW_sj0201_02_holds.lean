import PyProof.Rows.All
import Wide.All
import OpenK.AllK
import Wide.FinOn
import Lean
import PySem.Challenge.RW_sj0201_02
open PySem PySem.W PyProof.Rows PySem.Calls
set_option Elab.async false
set_option autoImplicit false
set_option linter.unusedVariables false
set_option linter.unusedSimpArgs false
set_option maxRecDepth 100000
set_option bootstrap.genMatcherCode false
set_option genSizeOf false
namespace Mine
local macro_rules | `(tactic| omega) => `(tactic| first | assumption | exact Nat.le_trans (by assumption) (by decide) | lia)

noncomputable abbrev Led := List (Addr × Obj)
noncomputable abbrev tupObj (ws : List Value) (n : Nat) : Obj := { cls := .type "tuple", data := .seq ws.toArray n }

inductive V where
  | un | none
  | bool (b : Bool)
  | int (i : Int)
  | str (l : List Nat)
  | ref (a : Nat)
  | tup (vs : List V)
  | rol (vs : List V)

mutual
inductive VR (T : Led) : V → Value → Prop
  | none : VR T .none .none
  | bool (b : Bool) : VR T (.bool b) (.bool b)
  | int (i : Int) (t : Tok) : VR T (.int i) (.int i t)
  | str (l : List Nat) (t : Tok) : VR T (.str l) (.str ⟨l.toArray⟩ t)
  | ref (a : Nat) : VR T (.ref a) (.ref a)
  | tup {a : Nat} {vs : List V} {ws : List Value} {n : Nat} : (a, tupObj ws n) ∈ T → VRs T vs ws → VR T (.tup vs) (.ref a)
  | rol {a : Nat} {o : Obj} {vs : List V} {ws : List Value} {n : Nat} : (a, o) ∈ T → o.cls = .type "list" → o.data = .seq ws.toArray n → VRs T vs ws → VR T (.rol vs) (.ref a)
inductive VRs (T : Led) : List V → List Value → Prop
  | nil : VRs T [] []
  | cons {v : V} {x : Value} {vs : List V} {xs : List Value} : VR T v x → VRs T vs xs → VRs T (v :: vs) (x :: xs)
end

mutual
theorem VR.mono {T T' : Led} (h : ∀ p ∈ T, p ∈ T') {v : V} {x : Value} : VR T v x → VR T' v x
  | .none => .none
  | .bool b => .bool b
  | .int i t => .int i t
  | .str l t => .str l t
  | .ref a => .ref a
  | .tup hm hs => .tup (h _ hm) (VRs.mono h hs)
  | .rol hm h1 h2 hs => .rol (h _ hm) h1 h2 (VRs.mono h hs)
theorem VRs.mono {T T' : Led} (h : ∀ p ∈ T, p ∈ T') {vs : List V} {xs : List Value} : VRs T vs xs → VRs T' vs xs
  | .nil => .nil
  | .cons a b => .cons (VR.mono h a) (VRs.mono h b)
end
theorem VRs.length {T : Led} {vs : List V} {xs : List Value} (h : VRs T vs xs) : xs.length = vs.length := by
  induction vs generalizing xs with
  | nil => cases h; rfl
  | cons v vs ih => cases h with | cons a b => simp [ih b]
theorem VRs.append {T : Led} {vs vs' : List V} {xs xs' : List Value} (h : VRs T vs xs) (h' : VRs T vs' xs') : VRs T (vs ++ vs') (xs ++ xs') := by
  induction vs generalizing xs with
  | nil => cases h; exact h'
  | cons v vs ih => cases h with | cons a b => exact .cons a (ih b)
theorem VRs.get {T : Led} {vs : List V} {xs : List Value} (h : VRs T vs xs) {i : Nat} {v : V} (e : vs[i]? = some v) : ∃ x, xs[i]? = some x ∧ VR T v x := by
  induction vs generalizing xs i with
  | nil => simp at e
  | cons u vs ih =>
    cases h with | cons a b =>
    induction i using Nat.casesOn with
    | zero => simp at e; subst e; exact ⟨_, rfl, a⟩
    | succ i => simp at e; simpa using ih b e
theorem VRs.split {T : Led} {vs vs' : List V} {xs : List Value} (h : VRs T (vs ++ vs') xs) : ∃ ys ys', xs = ys ++ ys' ∧ VRs T vs ys ∧ VRs T vs' ys' := by
  induction vs generalizing xs with
  | nil => exact ⟨[], xs, rfl, .nil, h⟩
  | cons v vs ih =>
    cases h with | cons a b =>
    obtain ⟨ys, ys', rfl, h1, h2⟩ := ih b
    exact ⟨_ :: ys, ys', rfl, .cons a h1, h2⟩
theorem VRs.one {T : Led} {v : V} {x : Value} (h : VR T v x) : VRs T [v] [x] := .cons h .nil

inductive MO where
  | lst (vs : List V)
  | ins (c : Nat) (fs : List (Nat × V))
  | dic (n : Nat)

noncomputable abbrev Hp := Nat → Option MO
noncomputable def Hp.set (H : Hp) (a : Nat) (o : MO) : Hp := fun b => if b = a then some o else H b
theorem Hp.set_self (H : Hp) (a : Nat) (o : MO) : H.set a o a = some o := if_pos rfl
theorem Hp.set_ne (H : Hp) {a b : Nat} (o : MO) (h : b ≠ a) : H.set a o b = H b := if_neg h

/-- the attribute names, by their numbers -/
noncomputable def nms : List Str := (["orders", "pc", "at", "named", "marks", "calls", "subject", "host", "history", "values", "limit", "refused", "width", "steps", "log",
  "kind", "owner", "key", "emit", "put", "begun", "choice", "repeat", "bound", "copied", "run", "way_back", "done", "met_once", "ended", "other", "met_often",
  "asked", "step", "assign", "append", "pop", "extend", "reverse", "count", "join"] : List String).map Str.ofString
noncomputable def nm (k : Nat) : Str := nms.getD k Str.empty

noncomputable abbrev strOf (l : List Nat) : Str := ⟨l.toArray⟩

/-- what is asked of a dict of at most so many entries -/
noncomputable abbrev DK := Nat → Obj → Prop
inductive FRs (P : DK) (T : Led) : List (Nat × V) → List DictEntry → Prop
  | nil : FRs P T [] []
  | cons {k : Nat} {v : V} {x : Value} {t : Tok} {hs : Int} {fs : List (Nat × V)} {es : List DictEntry} :
      k < 41 → VR T v x → FRs P T fs es → FRs P T ((k, v) :: fs) (⟨hs, .str (nm k) t, x⟩ :: es)
theorem FRs.mono {P : DK} {T T' : Led} (h : ∀ p ∈ T, p ∈ T') {fs : List (Nat × V)} {es : List DictEntry} (r : FRs P T fs es) : FRs P T' fs es := by
  induction r with
  | nil => exact .nil
  | cons z a _ ih => exact .cons z (a.mono h) ih
noncomputable abbrev Own := Addr → Option Addr
noncomputable def ObjIn (P : DK) (news : Led) (own : Own) (T : Led) (a : Addr) : MO → Prop
  | .lst vs => ∃ ws n, (a, listOf ws.toArray n) ∈ news ∧ VRs T vs ws
  | .ins c fs => ∃ dx es n, (a, instObj c dx) ∈ news ∧ (dx, dictOf es n) ∈ news ∧ own dx = some a ∧ FRs P T fs es
  | .dic n => ∃ o, (a, o) ∈ news ∧ P n o

structure HRel (P : DK) (T0 news : Led) (H : Hp) (R T : Led) (own : Own) : Prop where
  nd : (news.map (·.1)).Nodup
  obj : ∀ a o, H a = some o → own a = some a ∧ ObjIn P news own T a o
  R : ∀ p ∈ R, p ∈ news ∧ own p.1 = none
  T : ∀ p ∈ T, (p ∈ news ∧ own p.1 = none ∧ ∃ ws n, p.2 = tupObj ws n) ∨ p ∈ T0

theorem nd_inj {news : Led} (h : (news.map (·.1)).Nodup) {a : Addr} {o o' : Obj} (h1 : (a, o) ∈ news) (h2 : (a, o') ∈ news) : o = o' := by
  induction news with
  | nil => cases h1
  | cons p r ih =>
    simp only [List.map_cons, List.nodup_cons] at h
    rcases List.mem_cons.mp h1 with e1 | h1 <;> rcases List.mem_cons.mp h2 with e2 | h2
    · rw [← e1] at e2; cases e2; rfl
    · exact absurd (List.mem_map.mpr ⟨(a, o'), h2, by rw [← e1]⟩) h.1
    · exact absurd (List.mem_map.mpr ⟨(a, o), h1, by rw [← e2]⟩) h.1
    · exact ih h.2 h1 h2

noncomputable def rep (a : Addr) (o : Obj) (news : Led) : Led := news.map fun p => if p.1 = a then (a, o) else p
theorem rep_fst (a : Addr) (o : Obj) (news : Led) : (rep a o news).map (·.1) = news.map (·.1) := by
  unfold rep
  rw [List.map_map]
  apply List.map_congr_left
  intro p _
  by_cases h : p.1 = a <;> simp [h]
theorem rep_other {a b : Addr} {o x : Obj} {news : Led} (h : (b, x) ∈ news) (hne : b ≠ a) : (b, x) ∈ rep a o news :=
  List.mem_map.mpr ⟨(b, x), h, by simp [hne]⟩
theorem rep_self {a : Addr} {o x : Obj} {news : Led} (h : (a, x) ∈ news) : (a, o) ∈ rep a o news :=
  List.mem_map.mpr ⟨(a, x), h, by simp⟩
theorem rep_off {a : Addr} {o : Obj} {news : Led} (h : a ∉ news.map (·.1)) : rep a o news = news := by
  induction news with
  | nil => rfl
  | cons p r ih =>
    simp only [List.map_cons, List.mem_cons, not_or] at h
    have : ¬ p.1 = a := fun e => h.1 e.symm
    show (if p.1 = a then (a, o) else p) :: rep a o r = p :: r
    rw [if_neg this, ih h.2]
theorem upd_rep {a : Addr} {o o' : Obj} {news : Led} (nd : (news.map (·.1)).Nodup) (h : (a, o) ∈ news) : Upd a o o' news (rep a o' news) := by
  induction news with
  | nil => cases h
  | cons p r ih =>
    simp only [List.map_cons, List.nodup_cons] at nd
    rcases List.mem_cons.mp h with e | h
    · subst e
      have hr : a ∉ r.map (·.1) := nd.1
      have : rep a o' ((a, o) :: r) = (a, o') :: r := by
        show (if a = a then (a, o') else (a, o)) :: rep a o' r = _
        rw [if_pos rfl, rep_off hr]
      rw [this]
      exact .head fun q hq e => hr (List.mem_map.mpr ⟨q, hq, e⟩)
    · have hp : p.1 ≠ a := fun e => nd.1 (List.mem_map.mpr ⟨(a, o), h, e.symm⟩)
      have : rep a o' (p :: r) = p :: rep a o' r := by
        show (if p.1 = a then (a, o') else p) :: rep a o' r = _
        rw [if_neg hp]
      rw [this]
      exact .tail hp (ih nd.2 h)

section
variable {P : DK} {T0 news : Led} {H : Hp} {R T : Led} {own : Own}

theorem ObjIn.mono {T' : Led} {own' : Own} {news' : Led} {a : Addr} {o : MO} (h : ObjIn P news own T a o) (hT : ∀ p ∈ T, p ∈ T') (hn : ∀ b x, (b, x) ∈ news → (own b = some a ∨ b = a) → (b, x) ∈ news')
    (ho : ∀ b, own b = some a → own' b = some a) : ObjIn P news' own' T' a o := by
  induction o using MO.casesOn with
  | lst vs => obtain ⟨ws, n, h1, h2⟩ := h; exact ⟨ws, n, hn _ _ h1 (.inr rfl), h2.mono hT⟩
  | ins c fs => obtain ⟨dx, es, n, h1, h2, h3, h4⟩ := h; exact ⟨dx, es, n, hn _ _ h1 (.inr rfl), hn _ _ h2 (.inl h3), ho _ h3, h4.mono hT⟩
  | dic n => obtain ⟨o, h1, h2⟩ := h; exact ⟨o, hn _ _ h1 (.inr rfl), h2⟩
theorem ObjIn.addr {a : Addr} {o : MO} (h : ObjIn P news own T a o) : a ∈ news.map (·.1) := by
  induction o using MO.casesOn with
  | lst vs => obtain ⟨ws, n, h1, h2⟩ := h; exact List.mem_map.mpr ⟨_, h1, rfl⟩
  | ins c fs => obtain ⟨dx, es, n, h1, h2, h3, h4⟩ := h; exact List.mem_map.mpr ⟨_, h1, rfl⟩
  | dic n => obtain ⟨o, h1, h2⟩ := h; exact List.mem_map.mpr ⟨_, h1, rfl⟩
theorem HRel.addr (r : HRel P T0 news H R T own) {a : Addr} {o : MO} (h : H a = some o) : a ∈ news.map (·.1) := (r.obj a o h).2.addr
theorem HRel.fresh (r : HRel P T0 news H R T own) {a : Addr} (h : ∀ p ∈ news, p.1 ≠ a) : H a = Option.none := by
  cases e : H a with
  | none => rfl
  | some o =>
    obtain ⟨p, hp, e'⟩ := List.mem_map.mp (r.addr e)
    exact absurd e' (h p hp)

/-- a new object that nobody looks at -/
theorem HRel.push (r : HRel P T0 news H R T own) {a : Addr} (o : Obj) (h : ∀ p ∈ news, p.1 ≠ a) : HRel P T0 ((a, o) :: news) H R T (fun b => if b = a then none else own b) := by
  have ha : a ∉ news.map (·.1) := fun q => by obtain ⟨p, hp, e⟩ := List.mem_map.mp q; exact h p hp e
  have off : ∀ b, b ∈ news.map (·.1) → b ≠ a := fun b hb e => ha (e ▸ hb)
  refine ⟨by simp only [List.map_cons, List.nodup_cons]; exact ⟨ha, r.nd⟩, fun b x e => ?_, fun p hp => ?_, fun p hp => ?_⟩
  · obtain ⟨h1, h2⟩ := r.obj b x e
    have hb := off b h2.addr
    refine ⟨by rw [if_neg hb]; exact h1, ?_⟩
    induction x using MO.casesOn with
    | lst vs => obtain ⟨ws, n, h3, h4⟩ := h2; exact ⟨ws, n, .tail _ h3, h4⟩
    | ins c fs => obtain ⟨dx, es, n, h3, h4, h5, h6⟩ := h2; exact ⟨dx, es, n, .tail _ h3, .tail _ h4, by show (if dx = a then none else own dx) = some b; rw [if_neg (off dx (List.mem_map.mpr ⟨_, h4, rfl⟩))]; exact h5, h6⟩
    | dic n => obtain ⟨o, h3, h4⟩ := h2; exact ⟨o, .tail _ h3, h4⟩
  · obtain ⟨h1, h2⟩ := r.R p hp
    exact ⟨.tail _ h1, by rw [if_neg (h p h1)]; exact h2⟩
  · rcases r.T p hp with ⟨h1, h2, h3⟩ | h1
    · exact .inl ⟨.tail _ h1, by rw [if_neg (h p h1)]; exact h2, h3⟩
    · exact .inr h1
/-- a new tuple -/
theorem HRel.pushT (r : HRel P T0 news H R T own) {a : Addr} (o : Obj) (ho : ∃ ws n, o = tupObj ws n) (h : ∀ p ∈ news, p.1 ≠ a) : HRel P T0 ((a, o) :: news) H R ((a, o) :: T) (fun b => if b = a then none else own b) := by
  have q := r.push o h
  refine ⟨q.nd, fun b x e => ⟨(q.obj b x e).1, (q.obj b x e).2.mono (fun _ => .tail _) (fun _ _ z _ => z) fun _ z => z⟩, q.R, fun p hp => ?_⟩
  rcases List.mem_cons.mp hp with rfl | hp
  · exact .inl ⟨.head _, if_pos rfl, ho⟩
  · exact q.T p hp
/-- a new object of the little heap -/
theorem HRel.pushO (r : HRel P T0 news H R T own) {a : Addr} (o : Obj) (x : MO) (h : ∀ p ∈ news, p.1 ≠ a) (hx : ObjIn P ((a, o) :: news) (fun b => if b = a then some a else own b) T a x) :
    HRel P T0 ((a, o) :: news) (H.set a x) R T (fun b => if b = a then some a else own b) := by
  have ha : a ∉ news.map (·.1) := fun q => by obtain ⟨p, hp, e⟩ := List.mem_map.mp q; exact h p hp e
  have off : ∀ b, b ∈ news.map (·.1) → b ≠ a := fun b hb e => ha (e ▸ hb)
  have q := r.push o h
  refine ⟨q.nd, fun b y e => ?_, fun p hp => ?_, fun p hp => ?_⟩
  · by_cases hb : b = a
    · subst hb
      rw [Hp.set_self] at e
      obtain rfl := Option.some.inj e
      exact ⟨if_pos rfl, hx⟩
    · rw [Hp.set_ne _ _ hb] at e
      obtain ⟨h1, h2⟩ := q.obj b y e
      refine ⟨by rw [if_neg hb]; rwa [if_neg hb] at h1, h2.mono (fun _ z => z) (fun _ _ z _ => z) fun c hc => ?_⟩
      by_cases hca : c = a
      · rw [if_pos hca] at hc; cases hc
      · rw [if_neg hca] at hc; rw [if_neg hca]; exact hc
  · obtain ⟨h1, h2⟩ := r.R p hp
    exact ⟨.tail _ h1, by rw [if_neg (h p h1)]; exact h2⟩
  · rcases r.T p hp with ⟨h1, h2, h3⟩ | h1
    · exact .inl ⟨.tail _ h1, by rw [if_neg (h p h1)]; exact h2, h3⟩
    · exact .inr h1

/-- an object of the little heap is changed: `b` is its own place, or its dict's -/
theorem HRel.upd (r : HRel P T0 news H R T own) {a b : Addr} {o' : Obj} {x x' : MO} (e : H a = some x) (hb : own b = some a) (hx : ObjIn P (rep b o' news) own T a x') :
    HRel P T0 (rep b o' news) (H.set a x') R T own := by
  refine ⟨by rw [rep_fst]; exact r.nd, fun c y e' => ?_, fun p hp => ?_, fun p hp => ?_⟩
  · by_cases hc : c = a
    · subst hc
      rw [Hp.set_self] at e'
      obtain rfl := Option.some.inj e'
      exact ⟨(r.obj _ _ e).1, hx⟩
    · rw [Hp.set_ne _ _ hc] at e'
      obtain ⟨h1, h2⟩ := r.obj c y e'
      refine ⟨h1, h2.mono (fun _ z => z) (fun d z hz hd => rep_other hz fun q => ?_) fun _ z => z⟩
      subst q
      rcases hd with hd | hd
      · rw [hb] at hd; obtain rfl := Option.some.inj hd; exact hc rfl
      · subst hd; rw [h1] at hb; obtain rfl := Option.some.inj hb; exact hc rfl
  · obtain ⟨h1, h2⟩ := r.R p hp
    refine ⟨rep_other h1 fun q => ?_, h2⟩
    rw [q, hb] at h2; cases h2
  · rcases r.T p hp with ⟨h1, h2, h3⟩ | h1
    · refine .inl ⟨rep_other h1 fun q => ?_, h2, h3⟩
      rw [q, hb] at h2; cases h2
    · exact .inr h1
/-- a cell is changed -/
theorem HRel.updC {cs : Led} (r : HRel P T0 news H cs T own) {b : Addr} {o o' : Obj} (hb : (b, o) ∈ cs) (ho : ∀ ws n, o ≠ tupObj ws n) : HRel P T0 (rep b o' news) H (rep b o' cs) T own := by
  obtain ⟨hb1, hb2⟩ := r.R _ hb
  refine ⟨by rw [rep_fst]; exact r.nd, fun c y e => ?_, fun p hp => ?_, fun p hp => ?_⟩
  · obtain ⟨h1, h2⟩ := r.obj c y e
    refine ⟨h1, h2.mono (fun _ z => z) (fun d z hz hd => rep_other hz fun q => ?_) fun _ z => z⟩
    subst q
    rcases hd with hd | hd
    · rw [hb2] at hd; cases hd
    · subst hd; rw [h1] at hb2; cases hb2
  · obtain ⟨q, hq, rfl⟩ := List.mem_map.mp hp
    obtain ⟨h1, h2⟩ := r.R q hq
    by_cases e : q.1 = b
    · rw [if_pos e]; exact ⟨rep_self hb1, hb2⟩
    · rw [if_neg e]; exact ⟨rep_other h1 e, h2⟩
  · rcases r.T p hp with ⟨h1, h2, ws, n, h3⟩ | h1
    · refine .inl ⟨rep_other h1 fun q => ?_, h2, ws, n, h3⟩
      have : (b, p.2) ∈ news := q ▸ h1
      exact ho ws n ((nd_inj r.nd hb1 this).trans h3)
    · exact .inr h1
theorem HRel.subR {R' : Led} (r : HRel P T0 news H R T own) (h : ∀ p ∈ R', p ∈ R) : HRel P T0 news H R' T own := ⟨r.nd, r.obj, fun p hp => r.R p (h p hp), r.T⟩
end


structure Cx where
  prog : Program
  w : World
  K : Frag
  mg : Str → Option Value
  mb : Str → Option Value
  T0 : Led
noncomputable abbrev Cx.M (c : Cx) : Model := model c.prog c.w
noncomputable def Cx.dk (c : Cx) : DK := fun n o => ∃ (kvs : List (Str × Value)) (D : List (PyData × PyData)), o.IsDictOf (strKind c.prog c.w) kvs ∧ PyProof.V.FlatPairs PyData.str kvs D ∧ D.length ≤ n
noncomputable abbrev noE : Value → Shared → Prop := fun _ _ => False

/-- the classes' tables: which attributes their objects keep, their methods, and `__init__` -/
noncomputable def clsTab : List (Nat × List Nat × List (Nat × Nat) × Nat) := [
  (94, [0], [(18, 58), (19, 65), (20, 70), (21, 77), (22, 84), (23, 91)], 51),
  (208, [15, 16, 17], [], 205),
  (449, [0, 1, 2, 3, 4, 5], [(24, 446)], 439),
  (526, [6, 7, 8], [(25, 474), (26, 481), (27, 488), (28, 495), (29, 502), (30, 509), (31, 516), (32, 523)], 467),
  (589, [9, 10, 11, 12, 13, 14], [(33, 586), (34, 579)], 565)]
noncomputable def attrOk (C k : Nat) : Bool := clsTab.any fun p => p.1 == C && p.2.1.contains k
noncomputable def methOf (C k : Nat) : Option Nat := (clsTab.lookup C).bind fun p => p.2.1.lookup k
noncomputable def iniOf (C : Nat) : Option Nat := (clsTab.lookup C).map fun p => p.2.2

structure Gd (K : Frag) : Prop where
  attr : ∀ C k, attrOk C k = true → findIn K (.ref C) (nm k) = some none ∧ takerIn K C (nm k) = some none
  cls : ∀ C f, iniOf C = some f → plainGet K C "" = true ∧ hasDictIn K C = true ∧ plainOver K C = true ∧ findIn K (.ref C) "__setattr__" = some (some (.builtin "object.__setattr__")) ∧
    makesIn K C = true ∧ findIn K (.ref C) "__init__" = some (some (.ref f)) ∧ isFn K (.ref f) = true ∧ keepIn K (.ref C) = true
  meth : ∀ C k f, methOf C k = some f → findIn K (.ref C) (nm k) = some (some (.ref f)) ∧ isFn K (.ref f) = true ∧ keepIn K (.ref f) = true

structure Base (c : Cx) (g : Heap) : Prop where
  gd : Gd c.K
  X : c.K.In g
  gl : g.Ns mainGlobals c.mg
  bl : g.Ns builtinsNs c.mb
  lim : g.NoLimit
  t0 : ∀ p ∈ c.T0, g.get? p.1 = some p.2
theorem Base.keeps {c : Cx} {g h : Heap} (B : Base c g) (k : ∀ b o, g.get? b = some o → h.get? b = some o) : Base c h :=
  ⟨B.gd, B.X.keeps k, B.gl.keeps k, B.bl.keeps k, B.lim.keeps k, fun p hp => k _ _ (B.t0 p hp)⟩

noncomputable abbrev Names := List (Str × NameKind)
structure Fx where
  A : Around
  g : Heap
  env : Env
  L : Addr
  R : Led
  names : Names
  mm : (Str → Option Value) → Prop

noncomputable def lk (x : Str) : Names → Nat → Option (Nat × NameKind)
  | [], _ => none
  | p :: r, i => if x = p.1 then some (i, p.2) else lk x r (i + 1)
theorem lk_inj {x y : Str} : ∀ {ns : Names} {n i : Nat} {k k' : NameKind}, lk x ns n = some (i, k) → lk y ns n = some (i, k') → x = y
  | [], _, _, _, _, h, _ => by simp [lk] at h
  | p :: r, n, i, k, k', h, h' => by
    have up : ∀ {z : Str} {r : Names} {n j : Nat} {k : NameKind}, lk z r n = some (j, k) → n ≤ j := by
      intro z r
      induction r with
      | nil => intro n j k h; simp [lk] at h
      | cons p r ih =>
        intro n j k h
        simp only [lk] at h
        split at h
        · cases h; exact Nat.le_refl _
        · exact Nat.le_of_succ_le (ih h)
    simp only [lk] at h h'
    by_cases h1 : x = p.1 <;> by_cases h2 : y = p.1
    · rw [h1, h2]
    · rw [if_pos h1] at h; rw [if_neg h2] at h'
      cases h; exact absurd (up h') (by omega)
    · rw [if_neg h1] at h; rw [if_pos h2] at h'
      cases h'; exact absurd (up h) (by omega)
    · rw [if_neg h1] at h; rw [if_neg h2] at h'
      exact lk_inj h h'
theorem lk_lookup {x : Str} : ∀ {ns : Names} {n i : Nat} {k : NameKind}, lk x ns n = some (i, k) → ns.lookup x = some k
  | [], _, _, _, h => by simp [lk] at h
  | p :: r, n, i, k, h => by
    simp only [lk] at h
    rw [show p :: r = (p.1, p.2) :: r from rfl, List.lookup_cons]
    by_cases h1 : x = p.1
    · rw [if_pos h1] at h; cases h; rw [h1]; simp
    · rw [if_neg h1] at h
      have : (x == p.1) = false := by simpa using h1
      rw [this]
      exact lk_lookup h

structure Fm (c : Cx) (f : Fx) : Prop where
  base : Base c f.g
  hand : f.A.handled = none
  kind : f.env.scope.kind = .function
  glob : f.env.globals = mainGlobals
  bi : f.env.builtins = builtinsNs
  bel : ∃ A₀ b₀ outer fenv, Below A₀ b₀ outer f.g ∧ f.A.frames = some (fenv :: outer) ∧ fenv.frame = some f.L ∧ fenv.scope.kind = .function
  nms : ∀ x i k, lk x f.names 0 = some (i, k) → f.env.kindOf x = some k
  lcs : f.env.locals = f.L ∨ ∃ o, (f.env.locals, o) ∈ f.R

noncomputable def Room (A : Around) (d : Nat) : Prop := A.depth + 3 * d + 3 < recursionLimit ∧ A.units + 20 * d + 20 < cLine

/-- what a name of the frame holds -/
noncomputable def Rd (env : Env) (L : Addr) (m : Str → Option Value) (RC : Led) (x : Str) (v : Value) : Prop :=
  (env.kindOf x = some .local ∧ env.locals = L ∧ m x = some v) ∨
  (env.kindOf x = some .local ∧ ∃ oC m₂, (env.locals, oC) ∈ RC ∧ LCg.NsObj oC m₂ ∧ m₂ x = some v) ∨
  ((env.kindOf x = some .cell ∨ (env.kindOf x = some .free ∧ (x == ("__classdict__" : Str)) = false)) ∧ ∃ c o, env.cells.lookup x = some c ∧ (c, o) ∈ RC ∧ o.data = .cell (some v))
noncomputable def LocR (names : Names) (env : Env) (L : Addr) (m : Str → Option Value) (RC T : Led) (ρ : List V) : Prop :=
  ∀ x i k mv, lk x names 0 = some (i, k) → k ≠ .globalImplicit → ρ[i]? = some mv → mv ≠ V.un → (x == ("__debug__" : Str)) = false ∧ ∃ v, VR T mv v ∧ Rd env L m RC x v
noncomputable def CsOk (env : Env) (L : Addr) (cs : Led) (P : Prop) : Prop := (∀ p ∈ cs, (∃ v, p.2.data = .cell v) ∧ L < p.1) ∧ (env.locals = L → (∀ x, env.kindOf x = some .cell → ∃ c o v, env.cells.lookup x = some c ∧ (c, o) ∈ cs ∧ o.data = .cell v) ∧ ∀ x y c, env.cells.lookup x = some c → env.cells.lookup y = some c → x = y) ∧ P

structure Sx (c : Cx) (f : Fx) (T : Led) (ρ : List V) (H : Hp) (h : Heap) (m : Str → Option Value) (cs news : Led) (own : Own) : Prop where
  F : Fr f.g f.L h m
  N : News f.g f.L h news
  r : HRel c.dk c.T0 news H (f.R ++ cs) T own
  l : LocR f.names f.env f.L m (f.R ++ cs) T ρ
  k : CsOk f.env f.L cs (f.mm m)
  z : ∀ p ∈ c.T0, p ∈ T
noncomputable def St (c : Cx) (f : Fx) (T : Led) (ρ : List V) (H : Hp) (h : Heap) : Prop := ∃ m cs news own, Sx c f T ρ H h m cs news own

noncomputable abbrev QV := V → Hp → Prop
noncomputable abbrev Cl := Nat → List V → Hp → QV → Prop
noncomputable abbrev PT := Cl → List V → Hp → QV → Prop

/-- behind a step that gives a value -/
noncomputable def Post (c : Cx) (f : Fx) (T : Led) (ρ : List V) (s : Shared) (Q : Value → Shared → Prop) (Qm : QV) : Prop :=
  ∀ mv v T' H' h' tk', (∀ p ∈ T, p ∈ T') → VR T' mv v → St c f T' ρ H' h' → Qm mv H' → Q v { s with heap := h', toks := tk' }
noncomputable def SC (c : Cx) (d : Nat) (C : Cl) : Prop :=
  ∀ f : Fx, Fm c f → Room f.A d → ∀ a args vals T ρ H s Qm Q, St c f T ρ H s.heap → VRs T args vals → C a args H Qm → Post c f T ρ s Q Qm → wpAny c.M f.A (call (.ref a) vals) Q noE s
noncomputable def SE (c : Cx) (names : Names) (e : Expr) (Pt : PT) : Prop :=
  ∀ (f : Fx) d C, Fm c f → f.names = names → Room f.A d → SC c d C → ∀ T ρ H s Qm Q, St c f T ρ H s.heap → Pt C ρ H Qm → Post c f T ρ s Q Qm → wpAny c.M f.A (eval e f.env) Q noE s

section
variable {c : Cx} {f : Fx} {T : Led} {ρ : List V} {H : Hp} {s : Shared}

theorem St.keepT {h : Heap} (S : St c f T ρ H h) (B : Base c f.g) {p : Addr × Obj} (hp : p ∈ T) : h.get? p.1 = some p.2 := by
  obtain ⟨m, cs, news, own, ⟨F, N, r, l, k, z⟩⟩ := S
  rcases r.T p hp with ⟨h1, _, _⟩ | h1
  · exact (N p h1).1
  · exact F.keep _ _ (B.t0 p h1)
/-- a value at hand, no step taken but tokens -/
theorem Post.now {Q : Value → Shared → Prop} {Qm : QV} (p : Post c f T ρ s Q Qm) {mv : V} {v : Value} (hv : VR T mv v) (S : St c f T ρ H s.heap) (q : Qm mv H) (tk : Nat) : Q v { s with toks := tk } :=
  p mv v T H s.heap tk (fun _ z => z) hv S q
/-- the next step's own end -/
theorem Post.from {Q : Value → Shared → Prop} {Qm Qm' : QV} (p : Post c f T ρ s Q Qm) {T' : Led} {h : Heap} {tk : Nat} (hT : ∀ q ∈ T, q ∈ T') (hq : ∀ v H, Qm' v H → Qm v H) : Post c f T' ρ { s with heap := h, toks := tk } Q Qm' :=
  fun mv v T'' H' h' tk' h1 h2 h3 h4 => p mv v T'' H' h' tk' (fun q hq => h1 q (hT q hq)) h2 h3 (hq _ _ h4)

theorem SE_none {names : Names} {k : Nat} {pos : Pos} : SE c names (.Constant .none k pos) (fun _ _ H Q => Q .none H) :=
  fun f d C _ _ _ _ T ρ H s Qm Q S q p => Constant_none (p.now .none S q s.toks)
theorem SE_bool {names : Names} {b : Bool} {k : Nat} {pos : Pos} : SE c names (.Constant (.bool b) k pos) (fun _ _ H Q => Q (.bool b) H) :=
  fun f d C _ _ _ _ T ρ H s Qm Q S q p => Constant_bool (p.now (.bool b) S q s.toks)
theorem SE_int {names : Names} {i : Int} {k : Nat} {pos : Pos} : SE c names (.Constant (.int i) k pos) (fun _ _ H Q => Q (.int i) H) :=
  fun f d C _ _ _ _ T ρ H s Qm Q S q p => wpAny_Constant_int (p.now (.int i _) S q _)
theorem VR.strs {T : Led} (x : Str) (t : Tok) : VR T (.str x.cps.toList) (.str x t) := .str x.cps.toList t
theorem SE_str {names : Names} {x : Str} {k : Nat} {pos : Pos} : SE c names (.Constant (.str x) k pos) (fun _ _ H Q => Q (.str x.cps.toList) H) :=
  fun f d C _ _ _ _ T ρ H s Qm Q S q p => Constant_str (p.now (VR.strs x _) S q _)

theorem loadName_Rd {M : Model} {A : Around} {E : Value → Shared → Prop} {env : Env} {L : Addr} {m : Str → Option Value} {RC news : Led} {g : Heap} {x : Str} {v : Value} {Q : Value → Shared → Prop} (hk : env.scope.kind = .function)
    (F : Fr g L s.heap m) (N : News g L s.heap news) (hs : ∀ p ∈ RC, p ∈ news) (r : Rd env L m RC x v) (q : Q v s) : wpAny M A (loadName env x) Q E s := by
  rcases r with ⟨k1, k2, k3⟩ | ⟨k1, oC, m₂, k2, k3, k4⟩ | ⟨k1, cc, o, k2, k3, k4⟩
  · exact wpAny_loadName_local hk k1 (k2 ▸ F.ns) k3 q
  · exact wpAny_loadName_local hk k1 (k3.ns (N _ (hs _ k2)).1) k4 q
  · rcases k1 with k1 | ⟨k1, k5⟩
    · exact wpAny_loadName_cell hk k1 k2 ⟨o, (N _ (hs _ k3)).1, k4⟩ q
    · exact wpAny_loadName_free hk k1 k2 ⟨o, (N _ (hs _ k3)).1, k4⟩ q k5
noncomputable def pLoc (i : Nat) : PT := fun _ ρ H Q => match ρ[i]? with | some .un => False | some v => Q v H | none => False
theorem pLoc_out {i : Nat} {C : Cl} {ρ : List V} {H : Hp} {Q : QV} (h : pLoc i C ρ H Q) : ∃ v, ρ[i]? = some v ∧ v ≠ .un ∧ Q v H := by
  unfold pLoc at h
  split at h
  · exact h.elim
  · rename_i v hn e; exact ⟨v, e, hn, h⟩
  · exact h.elim
theorem SE_loc {names : Names} {x : Str} {pos : Pos} {i : Nat} {k : NameKind} (hl : lk x names 0 = some (i, k)) (hk : k ≠ .globalImplicit) : SE c names (.Name x pos) (pLoc i) := by
  intro f d C fm hn _ _ T ρ H s Qm Q S q p
  obtain ⟨mv, h1, h2, h3⟩ := pLoc_out q
  have S' := S
  obtain ⟨m, cs, news, own, ⟨F, N, r, l, ck, z⟩⟩ := S
  obtain ⟨hd, v, hv, rd⟩ := l x i k mv (hn ▸ hl) hk h1 h2
  exact wpAny_Name (loadName_Rd fm.kind F N (fun p hp => (r.R p hp).1) rd (p.now hv S' h3 s.toks)) hd

/-- a name of the text's top -/
theorem SE_glob {names : Names} {x : Str} {pos : Pos} {i : Nat} {mv : V} {v : Value} (hl : lk x names 0 = some (i, .globalImplicit)) (hg : c.mg x = some v) (hv : VR c.T0 mv v) (hd : (x == ("__debug__" : Str)) = false) :
    SE c names (.Name x pos) (fun _ _ H Q => Q mv H) := by
  intro f d C fm hn _ _ T ρ H s Qm Q S q p
  have S' := S
  obtain ⟨m, cs, news, own, ⟨F, N, r, l, ck, z⟩⟩ := S
  have hx := fm.nms x i _ (hn ▸ hl)
  exact Name_function_global fm.kind hx (loadGlobal_global (env := f.env) (by rw [fm.glob]; exact fm.base.gl.keeps F.keep) hg (p.now (hv.mono z) S' q s.toks)) hd
theorem nameB {x : Str} {pos : Pos} {i : Nat} {v : Value} {Q : Value → Shared → Prop} {E : Value → Shared → Prop} (fm : Fm c f) (hl : lk x f.names 0 = some (i, .globalImplicit)) (hg : c.mg x = none) (hv : c.mb x = some v)
    (hd : (x == ("__debug__" : Str)) = false) {h₀ : Heap} {L : Addr} {m : Str → Option Value} (F : Fr h₀ L s.heap m) (hb : Base c h₀) (q : Q v s) : wpAny c.M f.A (eval (.Name x pos) f.env) Q E s := by
  have hx := fm.nms x i _ hl
  exact Name_function_global fm.kind hx (loadGlobal_builtin (env := f.env) (by rw [fm.glob]; exact hb.gl.keeps F.keep) hg (by rw [fm.bi]; exact hb.bl.keeps F.keep) hv q) hd

noncomputable def pTest := Cl → List V → Hp → (Bool → Hp → Prop) → Prop
noncomputable def PostB (c : Cx) (f : Fx) (T : Led) (ρ : List V) (s : Shared) (Q : Bool → Shared → Prop) (Qm : Bool → Hp → Prop) : Prop :=
  ∀ b T' H' h' tk', (∀ p ∈ T, p ∈ T') → St c f T' ρ H' h' → Qm b H' → Q b { s with heap := h', toks := tk' }
noncomputable def SB (c : Cx) (names : Names) (e : Expr) (Pt : pTest) : Prop :=
  ∀ (f : Fx) d C, Fm c f → f.names = names → Room f.A d → SC c d C → ∀ T ρ H s Qm Q, St c f T ρ H s.heap → Pt C ρ H Qm → PostB c f T ρ s Q Qm → wpAny c.M f.A (isTrue e f.env (eval e f.env)) Q noE s
theorem PostB.from {Q : Bool → Shared → Prop} {Qm Qm' : Bool → Hp → Prop} (p : PostB c f T ρ s Q Qm) {T' : Led} {h : Heap} {tk : Nat} (hT : ∀ q ∈ T, q ∈ T') (hq : ∀ v H, Qm' v H → Qm v H) : PostB c f T' ρ { s with heap := h, toks := tk } Q Qm' :=
  fun b T'' H' h' tk' h1 h3 h4 => p b T'' H' h' tk' (fun q hq => h1 q (hT q hq)) h3 (hq _ _ h4)

noncomputable def pVal (v : V) : PT := fun _ _ H Q => Q v H
noncomputable def optQ {α : Type} (Q : α → Hp → Prop) (H : Hp) : Option α → Prop
  | some v => Q v H
  | none => False
theorem optQ_out {α : Type} {Q : α → Hp → Prop} {H : Hp} : ∀ {o : Option α}, optQ Q H o → ∃ v, o = some v ∧ Q v H
  | some v, h => ⟨v, rfl, h⟩
  | none, h => h.elim
noncomputable def ifPK (a b : PT) (C : Cl) (ρ : List V) (Q : QV) (x : Bool) (H : Hp) : Prop := match x with | true => a C ρ H Q | false => b C ρ H Q
noncomputable def pIf (t : pTest) (a b : PT) : PT := fun C ρ H Q => t C ρ H (ifPK a b C ρ Q)
theorem SE_ifexp {names : Names} {t a b : Expr} {pos : Pos} {Pt : pTest} {Pa Pb : PT} (ht : SB c names t Pt) (ha : SE c names a Pa) (hb : SE c names b Pb) :
    SE c names (.IfExp t a b pos) (pIf Pt Pa Pb) := by
  intro f d C fm hn rm sc T ρ H s Qm Q S q p
  refine IfExp_ (ht f d C fm hn rm sc T ρ H s _ _ S q fun x T' H' h' tk' hT S' q' => ?_)
  induction x using Bool.casesOn with
  | true => exact ha f d C fm hn rm sc T' ρ H' _ _ _ S' q' (p.from hT fun _ _ z => z)
  | false => exact hb f d C fm hn rm sc T' ρ H' _ _ _ S' q' (p.from hT fun _ _ z => z)

/-- a pure operation on two values -/
noncomputable def SOp2 (c : Cx) (op : Value → Value → Sem Value) (B : V → V → Hp → Option V) : Prop :=
  ∀ (f : Fx), Fm c f → Room f.A 0 → ∀ T ρ H s (Q : Value → Shared → Prop) a b x y v, St c f T ρ H s.heap → VR T a x → VR T b y → B a b H = some v →
    (∀ val h' tk', VR T v val → St c f T ρ H h' → Q val { s with heap := h', toks := tk' }) → wpAny c.M f.A (op x y) Q noE s
theorem Room.le {A : Around} {d e : Nat} (r : Room A d) (h : e ≤ d) : Room A e := by unfold Room at *; omega
noncomputable def op2V (B : V → V → Hp → Option V) (x : V) (Q : QV) (y : V) (H : Hp) : Prop := optQ Q H (B x y H)
noncomputable def op2K (B : V → V → Hp → Option V) (b : PT) (C : Cl) (ρ : List V) (Q : QV) (x : V) (H : Hp) : Prop := b C ρ H (op2V B x Q)
noncomputable def pOp2 (B : V → V → Hp → Option V) (a b : PT) : PT := fun C ρ H Q => a C ρ H (op2K B b C ρ Q)
theorem SE_two {names : Names} {l r e : Expr} {op : Value → Value → Sem Value} {B : V → V → Hp → Option V} {Pl Pr : PT} (hl : SE c names l Pl) (hr : SE c names r Pr) (ho : SOp2 c op B)
    (he : ∀ (M : Model) (A : Around) (E : Value → Shared → Prop) (env : Env) (s : Shared) (Q : Value → Shared → Prop), wpAny M A (eval l env) (fun a s₁ => wpAny M A (eval r env) (fun b s₂ => wpAny M A (op a b) Q E s₂) E s₁) E s → wpAny M A (eval e env) Q E s) :
    SE c names e (pOp2 B Pl Pr) := by
  intro f d C fm hn rm sc T ρ H s Qm Q S q p
  refine he _ _ _ _ _ _ (hl f d C fm hn rm sc T ρ H s _ _ S q fun a x T' H' h' tk' hT ha S' q' => ?_)
  refine hr f d C fm hn rm sc T' ρ H' _ _ _ S' q' fun b y T'' H'' h'' tk'' hT' hb S'' q'' => ?_
  obtain ⟨v, e, q''⟩ := optQ_out q''
  exact ho f fm (rm.le (Nat.zero_le _)) T'' ρ H'' _ _ a b x y v S'' (ha.mono hT') hb e fun val h3 tk3 hv S3 => p v val T'' H'' h3 tk3 (fun q hq => hT' q (hT q hq)) hv S3 q''
theorem SE_bin {names : Names} {l r : Expr} {op : Operator} {pos : Pos} {B : V → V → Hp → Option V} {Pl Pr : PT} (hl : SE c names l Pl) (hr : SE c names r Pr) (ho : SOp2 c (binaryOp op) B) :
    SE c names (.BinOp l op r pos) (pOp2 B Pl Pr) := SE_two hl hr ho fun _ _ _ _ _ _ h => wpAny_BinOp h

noncomputable def SCmp (c : Cx) (op : CmpOp) (B : V → V → Hp → Option Bool) : Prop :=
  ∀ (f : Fx), Fm c f → Room f.A 0 → ∀ T ρ H s (Q : Value → Shared → Prop) a b x y v, St c f T ρ H s.heap → VR T a x → VR T b y → B a b H = some v →
    (∀ h' tk', St c f T ρ H h' → Q (.bool v) { s with heap := h', toks := tk' }) → wpAny c.M f.A (compareOp op x y) Q noE s
noncomputable def cmpV (B : V → V → Hp → Option Bool) (x : V) (Q : Bool → Hp → Prop) (y : V) (H : Hp) : Prop := optQ Q H (B x y H)
noncomputable def cmpK (B : V → V → Hp → Option Bool) (b : PT) (C : Cl) (ρ : List V) (Q : Bool → Hp → Prop) (x : V) (H : Hp) : Prop := b C ρ H (cmpV B x Q)
noncomputable def tCmp (B : V → V → Hp → Option Bool) (a b : PT) : pTest := fun C ρ H Q => a C ρ H (cmpK B b C ρ Q)
noncomputable def ofTK (Q : QV) (b : Bool) (H : Hp) : Prop := Q (.bool b) H
noncomputable def pOfT (t : pTest) : PT := fun C ρ H Q => t C ρ H (ofTK Q)
theorem SE_cmp {names : Names} {l r : Expr} {op : CmpOp} {pos : Pos} {B : V → V → Hp → Option Bool} {Pl Pr : PT} (hl : SE c names l Pl) (hr : SE c names r Pr) (ho : SCmp c op B) (hm : behindInMarks op r = false) :
    SE c names (.Compare l [op] [r] pos) (pOfT (tCmp B Pl Pr)) := by
  intro f d C fm hn rm sc T ρ H s Qm Q S q p
  refine wpAny_Compare1 (hl f d C fm hn rm sc T ρ H s _ _ S q fun a x T' H' h' tk' hT ha S' q' => ?_) hm
  refine hr f d C fm hn rm sc T' ρ H' _ _ _ S' q' fun b y T'' H'' h'' tk'' hT' hb S'' q'' => ?_
  obtain ⟨v, e, q''⟩ := optQ_out q''
  exact ho f fm (rm.le (Nat.zero_le _)) T'' ρ H'' _ _ a b x y v S'' (ha.mono hT') hb e fun h3 tk3 S3 => p (.bool v) _ T'' H'' h3 tk3 (fun q hq => hT' q (hT q hq)) (.bool v) S3 q''
theorem SB_cmp {names : Names} {l r : Expr} {op : CmpOp} {pos : Pos} {B : V → V → Hp → Option Bool} {Pl Pr : PT} (hl : SE c names l Pl) (hr : SE c names r Pr) (ho : SCmp c op B) (hm : behindInMarks op r = false) :
    SB c names (.Compare l [op] [r] pos) (tCmp B Pl Pr) := by
  intro f d C fm hn rm sc T ρ H s Qm Q S q p
  refine wpAny_isTrue_Compare1 (hl f d C fm hn rm sc T ρ H s _ _ S q fun a x T' H' h' tk' hT ha S' q' => ?_) hm
  refine hr f d C fm hn rm sc T' ρ H' _ _ _ S' q' fun b y T'' H'' h'' tk'' hT' hb S'' q'' => ?_
  obtain ⟨v, e, q''⟩ := optQ_out q''
  exact ho f fm (rm.le (Nat.zero_le _)) T'' ρ H'' _ _ a b x y v S'' (ha.mono hT') hb e fun h3 tk3 S3 => wpAny_truthy_bool (p v T'' H'' h3 tk3 (fun q hq => hT' q (hT q hq)) S3 q'')
/-- a chain of two comparisons, as a test -/
noncomputable def tChain (B B' : V → V → Hp → Option Bool) (a b e : PT) : pTest := fun C ρ H Q => a C ρ H fun x H => b C ρ H fun y H => match B x y H with
  | some true => e C ρ H fun z H => (match B' y z H with | some v => Q v H | none => False)
  | some false => Q false H
  | none => False

/-- truth -/
noncomputable def truthV : V → Option Bool
  | .bool b => some b
  | .none => some false
  | _ => none
noncomputable def ofPK (Q : Bool → Hp → Prop) (v : V) (H : Hp) : Prop := optQ Q H (truthV v)
noncomputable def tOfP (p : PT) : pTest := fun C ρ H Q => p C ρ H (ofPK Q)
theorem truthy_V {M : Model} {A : Around} {E : Value → Shared → Prop} {T : Led} {v : V} {x : Value} {b : Bool} {Q : Bool → Shared → Prop} (hv : VR T v x) (e : truthV v = some b) (q : Q b s) : wpAny M A (truthy x) Q E s := by
  induction hv using VR.casesOn with
  | bool b' => obtain rfl := Option.some.inj e; exact wpAny_truthy_bool q
  | none => obtain rfl := Option.some.inj e; exact truthy_none q
  | _ => cases e
theorem SB_plain {names : Names} {e : Expr} {Pe : PT} (h : SE c names e Pe) (he : ∀ (env : Env) (whole : Sem Value), isTrue e env whole = (do let v ← whole; standAt e.pos; holding [v] (truthy v))) : SB c names e (tOfP Pe) := by
  intro f d C fm hn rm sc T ρ H s Qm Q S q p
  refine isTrue_plain (h f d C fm hn rm sc T ρ H s _ _ S q fun v x T' H' h' tk' hT hv S' q' => ?_) (he _ _)
  obtain ⟨b, e, q'⟩ := optQ_out q'
  exact truthy_V hv e (p b T' H' h' tk' hT S' q')
noncomputable def notK (Q : Bool → Hp → Prop) (b : Bool) (H : Hp) : Prop := Q (!b) H
noncomputable def tNot (t : pTest) : pTest := fun C ρ H Q => t C ρ H (notK Q)
theorem SB_not {names : Names} {e : Expr} {pos : Pos} {Pe : pTest} (h : SB c names e Pe) : SB c names (.UnaryOp .Not e pos) (tNot Pe) := by
  intro f d C fm hn rm sc T ρ H s Qm Q S q p
  exact isTrue_not (h f d C fm hn rm sc T ρ H s _ _ S q fun b T' H' h' tk' hT S' q' => p _ T' H' h' tk' hT S' q')
noncomputable def andK (b : pTest) (C : Cl) (ρ : List V) (Q : Bool → Hp → Prop) (x : Bool) (H : Hp) : Prop := match x with | true => b C ρ H Q | false => Q false H
noncomputable def tAnd (a b : pTest) : pTest := fun C ρ H Q => a C ρ H (andK b C ρ Q)
noncomputable def orK (b : pTest) (C : Cl) (ρ : List V) (Q : Bool → Hp → Prop) (x : Bool) (H : Hp) : Prop := match x with | true => Q true H | false => b C ρ H Q
noncomputable def tOr (a b : pTest) : pTest := fun C ρ H Q => a C ρ H (orK b C ρ Q)
theorem SB_and {names : Names} {e e' : Expr} {pos : Pos} {Pe Pe' : pTest} (h : SB c names e Pe) (h' : SB c names e' Pe') : SB c names (.BoolOp .And [e, e'] pos) (tAnd Pe Pe') := by
  intro f d C fm hn rm sc T ρ H s Qm Q S q p
  refine isTrue_and (h f d C fm hn rm sc T ρ H s _ _ S q fun b T' H' h2 tk' hT S' q' => ?_)
  cases b with
  | false => exact p _ T' H' h2 tk' hT S' q'
  | true =>
    refine isTrue_and (h' f d C fm hn rm sc T' ρ H' _ _ _ S' q' fun b T'' H'' h3 tk'' hT' S'' q'' => ?_)
    have z := p b T'' H'' h3 tk'' (fun q hq => hT' q (hT q hq)) S'' q''
    induction b using Bool.casesOn with
    | false => exact z
    | true => exact isTrue_and_nil z
theorem SB_or {names : Names} {e e' : Expr} {pos : Pos} {Pe Pe' : pTest} (h : SB c names e Pe) (h' : SB c names e' Pe') : SB c names (.BoolOp .Or [e, e'] pos) (tOr Pe Pe') := by
  intro f d C fm hn rm sc T ρ H s Qm Q S q p
  refine isTrue_or (h f d C fm hn rm sc T ρ H s _ _ S q fun b T' H' h2 tk' hT S' q' => ?_)
  cases b with
  | true => exact p _ T' H' h2 tk' hT S' q'
  | false =>
    refine isTrue_or (h' f d C fm hn rm sc T' ρ H' _ _ _ S' q' fun b T'' H'' h3 tk'' hT' S'' q'' => ?_)
    have z := p b T'' H'' h3 tk'' (fun q hq => hT' q (hT q hq)) S'' q''
    induction b using Bool.casesOn with
    | true => exact z
    | false => exact isTrue_or_nil z
end


noncomputable def strsOf : List V → Option (List (List Nat))
  | [] => some []
  | .str l :: r => (strsOf r).map (l :: ·)
  | _ :: _ => none
noncomputable def intsOf : List V → Option (List Int)
  | [] => some []
  | .int i :: r => (intsOf r).map (i :: ·)
  | _ :: _ => none
theorem strsAre_of {T : Led} : ∀ {vs : List V} {xs : List Value} {ls : List (List Nat)}, VRs T vs xs → strsOf vs = some ls → StrsAre xs (ls.map strOf)
  | [], _, _, h, e => by cases h; obtain rfl := Option.some.inj e; exact .nil
  | v :: vs, _, ls, h, e => by
    cases h with | cons a b =>
    cases v <;> simp only [strsOf] at e <;> try (cases e; done)
    obtain ⟨r, hr, rfl⟩ := Option.map_eq_some_iff.mp e
    cases a
    exact .cons _ _ (strsAre_of b hr)
theorem intsAre_of {T : Led} : ∀ {vs : List V} {xs : List Value} {ls : List Int}, VRs T vs xs → intsOf vs = some ls → IntsAre xs ls
  | [], _, _, h, e => by cases h; obtain rfl := Option.some.inj e; exact .nil
  | v :: vs, _, ls, h, e => by
    cases h with | cons a b =>
    cases v <;> simp only [intsOf] at e <;> try (cases e; done)
    obtain ⟨r, hr, rfl⟩ := Option.map_eq_some_iff.mp e
    cases a
    exact .cons _ _ (intsAre_of b hr)
theorem strOf_inj {a b : List Nat} : strOf a = strOf b ↔ a = b := by
  constructor
  · intro h
    have := congrArg (fun x => x.cps.toList) h
    simpa [strOf] using this
  · rintro rfl; rfl
theorem any_strOf (ls : List (List Nat)) (l : List Nat) : (ls.map strOf).any (· == strOf l) = ls.contains l := by
  induction ls with
  | nil => rfl
  | cons x r ih =>
    rw [List.map_cons, List.any_cons, ih, List.contains_cons]
    congr 1
    rw [Bool.eq_iff_iff, beq_iff_eq, beq_iff_eq, strOf_inj]
    exact eq_comm

section
variable {c : Cx} {f : Fx} {T : Led} {ρ : List V} {H : Hp} {s : Shared}

theorem St.lst {h : Heap} (S : St c f T ρ H h) {a : Nat} {vs : List V} (e : H a = some (.lst vs)) : ∃ ws n, h.get? a = some (listOf ws.toArray n) ∧ VRs T vs ws := by
  obtain ⟨m, cs, news, own, ⟨F, N, r, l, k, z⟩⟩ := S
  obtain ⟨_, ws, n, h1, h2⟩ := r.obj a _ e
  exact ⟨ws, n, (N _ h1).1, h2⟩
theorem isList_of {h : Heap} {a : Nat} {ws : List Value} {n : Nat} (e : h.get? a = some (listOf ws.toArray n)) : h.IsList a ws.toArray := ⟨_, e, rfl, n, rfl⟩
theorem isTup_of {h : Heap} {a : Nat} {ws : List Value} {n : Nat} (e : h.get? a = some (tupObj ws n)) : IsTup h a ws.toArray := ⟨_, e, rfl, n, rfl⟩

/-! comparisons -/
noncomputable def bLt (k : CmpOp) : V → V → Hp → Option Bool
  | .int i, .int j, _ => match k with
    | .Lt => some (decide (i < j)) | .LtE => some (decide (i ≤ j)) | .Gt => some (decide (i > j)) | .GtE => some (decide (i ≥ j)) | _ => none
  | _, _, _ => none
theorem no_some {α : Type} {v : α} {A : Prop} (e : none = some v) : A := nomatch e
theorem SCmp_lt (k : CmpOp) : SCmp c k (bLt k) := by
  intro f fm rm T ρ H s Q a b x y v S ha hb e q
  induction ha using VR.casesOn with
  | int i t =>
    induction hb using VR.casesOn with
    | int j u =>
      induction k using CmpOp.casesOn with
      | Lt => obtain rfl := Option.some.inj e; exact P.lt_int (q s.heap s.toks S)
      | LtE => obtain rfl := Option.some.inj e; exact P.le_int (q s.heap s.toks S)
      | Gt => obtain rfl := Option.some.inj e; exact P.gt_int (q s.heap s.toks S)
      | GtE => obtain rfl := Option.some.inj e; exact P.ge_int (q s.heap s.toks S)
      | _ => exact no_some e
    | _ => exact no_some e
  | _ => exact no_some e

noncomputable def bIs (k : Bool) : V → V → Hp → Option Bool
  | .un, _, _ => none
  | .none, .none, _ => some k
  | _, .none, _ => some (!k)
  | _, _, _ => none
theorem bIs_b {k : Bool} {a b : V} {H : Hp} {v : Bool} (e : bIs k a b H = some v) : b = .none := by
  induction a using V.casesOn <;> induction b using V.casesOn <;> first | rfl | exact no_some e
theorem bIs_a {k : Bool} {a : V} {x : Value} {T : Led} {H : Hp} {v : Bool} (ha : VR T a x) (e : bIs k a .none H = some v) : (x = .none ∧ v = k) ∨ (x ≠ .none ∧ v = !k) := by
  induction ha using VR.casesOn with
  | none => obtain rfl := Option.some.inj e; exact .inl ⟨rfl, rfl⟩
  | _ => obtain rfl := Option.some.inj e; exact .inr ⟨Value.noConfusion, rfl⟩
theorem SCmp_is : SCmp c .Is (bIs true) := by
  intro f fm rm T ρ H s Q a b x y v S ha hb e q
  obtain rfl := bIs_b e
  cases hb
  rcases bIs_a ha e with ⟨rfl, rfl⟩ | ⟨h, rfl⟩
  · exact is_none_none (q s.heap s.toks S)
  · exact is_none_ne h (q s.heap s.toks S)
theorem SCmp_isnot : SCmp c .IsNot (bIs false) := by
  intro f fm rm T ρ H s Q a b x y v S ha hb e q
  obtain rfl := bIs_b e
  cases hb
  rcases bIs_a ha e with ⟨rfl, rfl⟩ | ⟨h, rfl⟩
  · exact isnot_none_none (q s.heap s.toks S)
  · exact isnot_none_ne h (q s.heap s.toks S)

noncomputable def bIn : V → V → Hp → Option Bool
  | .str l, .tup vs, _ => (strsOf vs).map fun ls => ls.contains l
  | .str [x], .str l, _ => some (decide (x ∈ l))
  | .str l, .ref a, H => match H a with
    | some (.lst vs) => (strsOf vs).map fun ls => ls.contains l
    | _ => none
  | .int i, .ref a, H => match H a with
    | some (.lst vs) => (intsOf vs).map fun ls => ls.contains i
    | _ => none
  | _, _, _ => none
noncomputable def bNotIn : V → V → Hp → Option Bool
  | .str [x], .str l, _ => some (!decide (x ∈ l))
  | _, _, _ => none
theorem SCmp_in : SCmp c .In bIn := by
  intro f fm rm T ρ H s Q a b x y v S ha hb e q
  have q0 := q s.heap s.toks S
  induction ha using VR.casesOn with
  | str l t =>
    induction hb using VR.casesOn with
    | str l' t' =>
      match l, e with
      | [d], e =>
        simp only [bIn] at e
        obtain rfl := Option.some.inj e
        refine in_str ?_
        rw [show (⟨#[d]⟩ : Str) = ⟨[d].toArray⟩ from rfl] at *
        have z := StrLaws.found_one (strOf l') d
        rw [show ({ cps := [d].toArray } : Str) = { cps := #[d] } from rfl, z]
        simpa using q0
      | [], e => simp [bIn] at e
      | _ :: _ :: _, e => simp [bIn] at e
    | ref r =>
      rcases hl : H r with _ | o
      · simp [bIn, hl] at e
      · cases o with
        | lst vs =>
          simp only [bIn, hl] at e
          obtain ⟨ls, h1, rfl⟩ := Option.map_eq_some_iff.mp e
          obtain ⟨ws, n, h2, h3⟩ := S.lst hl
          refine in_list_strs (isList_of h2) (strsAre_of h3 h1) ?_
          rw [any_strOf]; exact q0
        | _ => simp [bIn, hl] at e
    | tup hm hs =>
      simp only [bIn] at e
      obtain ⟨ls, h1, rfl⟩ := Option.map_eq_some_iff.mp e
      refine in_tuple_strs (isTup_of (S.keepT fm.base hm)) (strsAre_of hs h1) ?_
      rw [any_strOf]; exact q0
    | _ => rcases l with _ | ⟨_, _ | ⟨_, _⟩⟩ <;> exact no_some e
  | int i t =>
    induction hb using VR.casesOn with
    | ref r =>
      rcases hl : H r with _ | o
      · simp [bIn, hl] at e
      · cases o with
        | lst vs =>
          simp only [bIn, hl] at e
          obtain ⟨ls, h1, rfl⟩ := Option.map_eq_some_iff.mp e
          obtain ⟨ws, n, h2, h3⟩ := S.lst hl
          refine in_list_ints (isList_of h2) (intsAre_of h3 h1) ?_
          rw [show (ls.any fun x => x == i) = ls.contains i by rw [List.contains_eq_any_beq]; congr 1; funext z; rw [Bool.eq_iff_iff, beq_iff_eq, beq_iff_eq]; exact eq_comm]
          exact q0
        | _ => simp [bIn, hl] at e
    | _ => exact no_some e
  | _ => exact no_some e
theorem SCmp_notIn : SCmp c .NotIn bNotIn := by
  intro f fm rm T ρ H s Q a b x y v S ha hb e q
  have q0 := q s.heap s.toks S
  induction ha using VR.casesOn with
  | str l t =>
    induction hb using VR.casesOn with
    | str l' t' =>
      match l, e with
      | [d], e =>
        simp only [bNotIn] at e
        obtain rfl := Option.some.inj e
        refine notIn_str ?_
        have z := StrLaws.found_one (strOf l') d
        rw [show ({ cps := [d].toArray } : Str) = { cps := #[d] } from rfl, z]
        simpa using q0
      | [], e => simp [bNotIn] at e
      | _ :: _ :: _, e => simp [bNotIn] at e
    | _ => rcases l with _ | ⟨_, _ | ⟨_, _⟩⟩ <;> exact no_some e
  | _ => exact no_some e

/-! equality -/
noncomputable def okStr (l : List Nat) : Bool := l.all (· < 0x110000)
noncomputable def eqLs (H : Hp) (a b : Nat) : Option Bool := match H a, H b with
  | some (.lst vs), some (.lst ws) => match strsOf vs, strsOf ws with
    | some x, some y => if x.all okStr && y.all okStr then some (x == y) else none
    | _, _ => match intsOf vs, intsOf ws with
      | some x, some y => some (x == y)
      | _, _ => none
  | _, _ => none
noncomputable def bEq : V → V → Hp → Option Bool
  | .int i, .int j, _ => some (i == j)
  | .str i, .str j, _ => some (i == j)
  | .ref a, .ref b, H => eqLs H a b
  | _, _, _ => none
noncomputable def bNe : V → V → Hp → Option Bool := fun a b H => (bEq a b H).map (!·)

theorem readsAll_strs {h : Heap} {T : Led} : ∀ {vs : List V} {xs : List Value} {ls : List (List Nat)}, VRs T vs xs → strsOf vs = some ls → ReadsAll h xs (ls.map fun l => PyData.str (strOf l)) []
  | [], _, _, h, e => by cases h; obtain rfl := Option.some.inj e; exact .nil
  | v :: vs, _, ls, h, e => by
    cases h with | cons a b =>
    cases v <;> simp only [strsOf] at e <;> try (cases e; done)
    obtain ⟨r, hr, rfl⟩ := Option.map_eq_some_iff.mp e
    cases a
    exact .cons (.str _ _) (readsAll_strs b hr)
theorem readsAll_ints {h : Heap} {T : Led} : ∀ {vs : List V} {xs : List Value} {ls : List Int}, VRs T vs xs → intsOf vs = some ls → ReadsAll h xs (ls.map PyData.int) []
  | [], _, _, h, e => by cases h; obtain rfl := Option.some.inj e; exact .nil
  | v :: vs, _, ls, h, e => by
    cases h with | cons a b =>
    cases v <;> simp only [intsOf] at e <;> try (cases e; done)
    obtain ⟨r, hr, rfl⟩ := Option.map_eq_some_iff.mp e
    cases a
    exact .cons (.int _ _) (readsAll_ints b hr)
theorem eqv_strs : ∀ (x y : List (List Nat)), PyData.eqvAll (x.map fun l => PyData.str (strOf l)) (y.map fun l => PyData.str (strOf l)) = (x == y)
  | [], [] => by simp [PyData.eqvAll]
  | [], _ :: _ => by simp [PyData.eqvAll]
  | _ :: _, [] => by simp [PyData.eqvAll]
  | a :: x, b :: y => by
    simp only [List.map_cons, PyData.eqvAll, PyData.eqv, eqv_strs x y]
    rw [List.cons_beq_cons]
    congr 1
    rw [Bool.eq_iff_iff, beq_iff_eq, beq_iff_eq, strOf_inj]
theorem eqv_ints : ∀ (x y : List Int), PyData.eqvAll (x.map PyData.int) (y.map PyData.int) = (x == y)
  | [], [] => by simp [PyData.eqvAll]
  | [], _ :: _ => by simp [PyData.eqvAll]
  | _ :: _, [] => by simp [PyData.eqvAll]
  | a :: x, b :: y => by
    simp only [List.map_cons, PyData.eqvAll, PyData.eqv, eqv_ints x y]
    rw [List.cons_beq_cons]
theorem lay_strs : ∀ (x : List (List Nat)), x.all okStr = true → PyData.canLayAll0 (x.map fun l => PyData.str (strOf l)) = true
  | [], _ => by simp [PyData.canLayAll0]
  | a :: x, h => by
    simp only [List.all_cons, Bool.and_eq_true] at h
    simp only [List.map_cons, PyData.canLayAll0, PyData.canLay0, lay_strs x h.2, Bool.and_true]
    have := h.1
    simpa [PyData.strOk, okStr, strOf] using this
theorem lay_ints : ∀ (x : List Int), PyData.canLayAll0 (x.map PyData.int) = true
  | [] => by simp [PyData.canLayAll0]
  | a :: x => by simp [PyData.canLayAll0, PyData.canLay0, lay_ints x]
theorem depth_strs : ∀ (x : List (List Nat)), PyData.depthAll (x.map fun l => PyData.str (strOf l)) = 0
  | [] => by simp [PyData.depthAll]
  | a :: x => by simp [PyData.depthAll, PyData.depth, depth_strs x]
theorem depth_ints : ∀ (x : List Int), PyData.depthAll (x.map PyData.int) = 0
  | [] => by simp [PyData.depthAll]
  | a :: x => by simp [PyData.depthAll, PyData.depth, depth_ints x]
theorem eqLs_reads {h : Heap} (S : St c f T ρ H h) {a b : Nat} {v : Bool} (e : eqLs H a b = some v) : ∃ da db as bs, Reads h (.ref a) da as ∧ Reads h (.ref b) db bs ∧ da.canLay0 = true ∧ db.canLay0 = true ∧ min da.depth db.depth ≤ 1 ∧ PyData.eqv da db = v := by
  unfold eqLs at e
  split at e
  · rename_i vs ws h1 h2
    obtain ⟨xs, n, h3, h4⟩ := S.lst h1
    obtain ⟨ys, k, h5, h6⟩ := S.lst h2
    split at e
    · rename_i x y h7 h8
      split at e
      · rename_i ok
        obtain rfl := Option.some.inj e
        rw [Bool.and_eq_true] at ok
        refine ⟨.list (x.map fun l => PyData.str (strOf l)), .list (y.map fun l => PyData.str (strOf l)), _, _, .list h3 rfl rfl (readsAll_strs h4 h7), .list h5 rfl rfl (readsAll_strs h6 h8), ?_, ?_, ?_, ?_⟩
        · rw [PyData.canLay0]; exact lay_strs x ok.1
        · rw [PyData.canLay0]; exact lay_strs y ok.2
        · simp [PyData.depth, depth_strs]
        · rw [PyData.eqv]; exact eqv_strs x y
      · cases e
    · split at e
      · rename_i x y h7 h8
        obtain rfl := Option.some.inj e
        refine ⟨.list (x.map PyData.int), .list (y.map PyData.int), _, _, .list h3 rfl rfl (readsAll_ints h4 h7), .list h5 rfl rfl (readsAll_ints h6 h8), ?_, ?_, ?_, ?_⟩
        · rw [PyData.canLay0]; exact lay_ints x
        · rw [PyData.canLay0]; exact lay_ints y
        · simp [PyData.depth, depth_ints]
        · rw [PyData.eqv]; exact eqv_ints x y
      · cases e
  · cases e
theorem SCmp_eq : SCmp c .Eq bEq := by
  intro f fm rm T ρ H s Q a b x y v S ha hb e q
  have q0 := q s.heap s.toks S
  induction ha using VR.casesOn with
  | int i t => induction hb using VR.casesOn with
    | int j u => obtain rfl := Option.some.inj e; exact P.eq_int q0
    | _ => exact no_some e
  | str i t => induction hb using VR.casesOn with
    | str j u => obtain rfl := Option.some.inj e; exact P.eq_str (by simpa [strOf] using q0)
    | _ => exact no_some e
  | ref i => induction hb using VR.casesOn with
    | ref j =>
      obtain ⟨da, db, as, bs, h1, h2, h3, h4, h5, rfl⟩ := eqLs_reads S e
      exact SeqAt.compareEq_reads h1 h2 h3 h4 (by have := rm.2; omega) q0
    | _ => exact no_some e
  | _ => exact no_some e
theorem SCmp_ne : SCmp c .NotEq bNe := by
  intro f fm rm T ρ H s Q a b x y v S ha hb e q
  have q0 := q s.heap s.toks S
  obtain ⟨v', e', rfl⟩ := Option.map_eq_some_iff.mp e
  induction ha using VR.casesOn with
  | int i t => induction hb using VR.casesOn with
    | int j u => obtain rfl := Option.some.inj e'; exact P.ne_int q0
    | _ => exact no_some e'
  | str i t => induction hb using VR.casesOn with
    | str j u => obtain rfl := Option.some.inj e'; exact P.ne_str (by simpa [strOf, bne] using q0)
    | _ => exact no_some e'
  | ref i => induction hb using VR.casesOn with
    | ref j =>
      obtain ⟨da, db, as, bs, h1, h2, h3, h4, h5, rfl⟩ := eqLs_reads S e'
      exact SeqAt.compareNe_reads h1 h2 h3 h4 (by have := rm.2; omega) q0
    | _ => exact no_some e'
  | _ => exact no_some e'

/-! arithmetic -/
noncomputable def small (i : Int) : Bool := decide (-(2 ^ 64) < i) && decide (i < 2 ^ 64)
noncomputable def bAr (k : Operator) : V → V → Hp → Option V
  | .int i, .int j, _ => match k with
    | .Add => some (.int (i + j)) | .Sub => some (.int (i - j)) | .Mult => if small i then some (.int (i * j)) else none
    | .Mod => if j = 0 then none else some (.int (i.fmod j)) | _ => none
  | .str a, .str b, _ => match k with
    | .Add => if a.length + b.length ≤ 1000000 then some (.str (a ++ b)) else none
    | _ => none
  | _, _, _ => none
theorem strOf_append (a b : List Nat) : strOf a ++ strOf b = strOf (a ++ b) := by
  show (⟨a.toArray ++ b.toArray⟩ : Str) = ⟨(a ++ b).toArray⟩
  simp
theorem sizeLine_ge : 1000000 ≤ sizeLine := by rw [sizeLine_eq]; omega
theorem SOp2_ar (k : Operator) : SOp2 c (binaryOp k) (bAr k) := by
  intro f fm rm T ρ H s Q a b x y v S ha hb e q
  induction ha using VR.casesOn with
  | int i t => induction hb using VR.casesOn with
    | int j u => induction k using Operator.casesOn with
      | Add => obtain rfl := Option.some.inj e; exact P.add_int (q _ _ _ (.int _ _) S)
      | Sub => obtain rfl := Option.some.inj e; exact P.sub_int (q _ _ _ (.int _ _) S)
      | Mult =>
        simp only [bAr] at e
        split at e
        · rename_i hs
          obtain rfl := Option.some.inj e
          simp only [small, Bool.and_eq_true, decide_eq_true_eq] at hs
          exact P.mul_int (q _ _ _ (.int _ _) S) (IntMulOk.of_left (intBits_le_64 hs.1 hs.2))
        · cases e
      | Mod =>
        simp only [bAr] at e
        split at e
        · cases e
        · rename_i hz
          obtain rfl := Option.some.inj e
          exact mod_int' hz (q _ _ _ (.int _ _) S)
      | _ => exact no_some e
    | _ => exact no_some e
  | str l t =>
    induction hb using VR.casesOn <;> simp only [bAr] at e <;> try (cases e; done)
    rename_i l' t'
    induction k using Operator.casesOn <;> simp only [] at e <;> try (cases e; done)
    split at e
    · rename_i hz
      obtain rfl := Option.some.inj e
      refine add_str (fun u tk => ?_) (Nat.le_trans (by simpa [Str.length, strOf] using hz) sizeLine_ge)
      rw [strOf_append]
      exact q _ _ _ (.str _ _) S
    · cases e
  | _ => exact no_some e
end


noncomputable abbrev PTs := Cl → List V → Hp → (List V → Hp → Prop) → Prop
noncomputable def PostL (c : Cx) (f : Fx) (T : Led) (ρ : List V) (s : Shared) (Q : List Value → Shared → Prop) (Qm : List V → Hp → Prop) : Prop :=
  ∀ mv v T' H' h' tk', (∀ p ∈ T, p ∈ T') → VRs T' mv v → St c f T' ρ H' h' → Qm mv H' → Q v { s with heap := h', toks := tk' }
/-- a row of expressions, from left to right -/
noncomputable def SL (c : Cx) (names : Names) (es : List Expr) (Pt : PTs) : Prop :=
  ∀ (f : Fx) d C, Fm c f → f.names = names → Room f.A d → SC c d C → ∀ pos T ρ H s Qm Q, St c f T ρ H s.heap → Pt C ρ H Qm → PostL c f T ρ s Q Qm → wpAny c.M f.A (spliced (backTo pos (starEach es f.env))) Q noE s
noncomputable def pNil : PTs := fun _ _ H Q => Q [] H
noncomputable def consV (v : V) (Q : List V → Hp → Prop) (vs : List V) (H : Hp) : Prop := Q (v :: vs) H
noncomputable def consK (ps : PTs) (C : Cl) (ρ : List V) (Q : List V → Hp → Prop) (v : V) (H : Hp) : Prop := ps C ρ H (consV v Q)
noncomputable def pCons (p : PT) (ps : PTs) : PTs := fun C ρ H Q => p C ρ H (consK ps C ρ Q)
noncomputable def notStar : Expr → Bool
  | .Starred _ _ => false
  | _ => true
theorem starEach_cons {e : Expr} (he : notStar e = true) (es : List Expr) (env : Env) : starEach (e :: es) env = (false, eval e env) :: starEach es env := by
  induction e using Expr.casesOn <;> first | rfl | cases he

section
variable {c : Cx} {f : Fx} {T : Led} {ρ : List V} {H : Hp} {s : Shared}

theorem SL_nil {names : Names} : SL c names [] pNil :=
  fun f d C fm hn rm sc pos T ρ H s Qm Q S q p => spliced_nil (p [] [] T H s.heap s.toks (fun _ z => z) .nil S q)
theorem SL_cons {names : Names} {e : Expr} {es : List Expr} {Pe : PT} {Ps : PTs} (he : SE c names e Pe) (hs : SL c names es Ps) (hn : notStar e = true) : SL c names (e :: es) (pCons Pe Ps) := by
  intro f d C fm hnm rm sc pos T ρ H s Qm Q S q p
  rw [starEach_cons hn]
  refine spliced_cons (he f d C fm hnm rm sc T ρ H s _ _ S q fun v x T' H' h' tk' hT hv S' q' => ?_)
  refine hs f d C fm hnm rm sc pos T' ρ H' _ _ _ S' q' fun vs xs T'' H'' h'' tk'' hT' hvs S'' q'' => ?_
  exact p (v :: vs) (x :: xs) T'' H'' h'' tk'' (fun z hz => hT' z (hT z hz)) (.cons (hv.mono hT') hvs) S'' q''

/-- a new thing on the ledger -/
theorem fresh_of {g h : Heap} {L : Addr} {news : Led} (N : News g L h news) : ∀ p ∈ news, p.1 ≠ h.objs.size := fun p hp e => by
  have := Heap.lt_size (N p hp).1
  rw [e] at this; exact Nat.lt_irrefl _ this
theorem LocR.mono {names : Names} {env : Env} {L : Addr} {m : Str → Option Value} {RC T T' : Led} (h : LocR names env L m RC T ρ) (hT : ∀ p ∈ T, p ∈ T') : LocR names env L m RC T' ρ :=
  fun x i k mv h1 h2 h3 h4 => let ⟨a, v, b, d⟩ := h x i k mv h1 h2 h3 h4; ⟨a, v, b.mono hT, d⟩

theorem Sx.fr {h : Heap} {m : Str → Option Value} {cs news : Led} {own : Own} (X : Sx c f T ρ H h m cs news own) {a : Addr} (ha : h.objs.size ≤ a) : ∀ p ∈ news, p.1 ≠ a := fun p hp e => by
  have := Heap.lt_size (X.N p hp).1; rw [e] at this; exact Nat.lt_irrefl _ (Nat.lt_of_lt_of_le this ha)
theorem Sx.tup {h h' : Heap} {m : Str → Option Value} {cs news : Led} {own : Own} (X : Sx c f T ρ H h m cs news own) {vs : List V} {xs : List Value} {a : Addr} {n : Nat} (hv : VRs T vs xs) (fr : ∀ p ∈ news, p.1 ≠ a)
    (F' : Fr f.g f.L h' m) (N' : News f.g f.L h' ((a, tupObj xs n) :: news)) : ∃ T', (∀ p ∈ T, p ∈ T') ∧ VR T' (.tup vs) (.ref a) ∧ St c f T' ρ H h' :=
  ⟨(a, tupObj xs n) :: T, fun p hp => .tail _ hp, .tup (.head _) (hv.mono fun p hp => .tail _ hp), m, cs, _, _, F', N', X.r.pushT _ ⟨_, _, rfl⟩ fr, X.l.mono fun p hp => .tail _ hp, X.k, fun p hp => .tail _ (X.z p hp)⟩
theorem Sx.junk {h h' : Heap} {m : Str → Option Value} {cs news : Led} {own : Own} (X : Sx c f T ρ H h m cs news own) {a : Addr} {o : Obj} (fr : ∀ p ∈ news, p.1 ≠ a) (F' : Fr f.g f.L h' m) (N' : News f.g f.L h' ((a, o) :: news)) :
    Sx c f T ρ H h' m cs ((a, o) :: news) (fun b => if b = a then none else own b) := ⟨F', N', X.r.push _ fr, X.l, X.k, X.z⟩
theorem Sx.lst {h h' : Heap} {m : Str → Option Value} {cs news : Led} {own : Own} (X : Sx c f T ρ H h m cs news own) {vs : List V} {xs : List Value} {a : Addr} {n : Nat} (hv : VRs T vs xs) (fr : ∀ p ∈ news, p.1 ≠ a)
    (F' : Fr f.g f.L h' m) (N' : News f.g f.L h' ((a, listOf xs.toArray n) :: news)) : H a = none ∧ St c f T ρ (H.set a (.lst vs)) h' :=
  ⟨X.r.fresh fr, m, cs, _, _, F', N', X.r.pushO _ _ fr ⟨xs, n, .head _, hv⟩, X.l, X.k, X.z⟩
theorem Sx.pushed {h : Heap} {m : Str → Option Value} {cs news : Led} {own : Own} (X : Sx c f T ρ H h m cs news own) (o : Obj) (hf : o.isFreed = false) :
    Sx c f T ρ H (h.push o) m cs ((h.objs.size, o) :: news) (fun b => if b = h.objs.size then none else own b) := X.junk (X.fr (Nat.le_refl _)) (X.F.push _) (X.N.push X.F _ hf)

noncomputable def atMost {α : Type} : List α → Nat → Bool
  | [], _ => true
  | _ :: _, 0 => false
  | _ :: r, n + 1 => atMost r n
theorem atMost_le {α : Type} : ∀ {l : List α} {n : Nat}, atMost l n = true → l.length ≤ n
  | [], n, _ => Nat.zero_le n
  | _ :: _, 0, h => Bool.noConfusion h
  | _ :: _, _ + 1, h => Nat.succ_le_succ (atMost_le h)
theorem of_tt {b : Bool} {A : Prop} (h : match b with | true => A | false => False) : b = true ∧ A := by
  induction b using Bool.casesOn
  · exact h.elim
  · exact ⟨rfl, h⟩
noncomputable def tupK (Q : QV) (vs : List V) (H : Hp) : Prop := match atMost vs 100000 with | true => Q (.tup vs) H | false => False
noncomputable def pTup (ps : PTs) : PT := fun C ρ H Q => ps C ρ H (tupK Q)
theorem SE_tup {names : Names} {es : List Expr} {k : Nat} {pos : Pos} {Ps : PTs} (hs : SL c names es Ps) : SE c names (.Tuple es k pos) (pTup Ps) := by
  intro f d C fm hn rm sc T ρ H s Qm Q S q p
  refine Tuple_ (hs f d C fm hn rm sc pos T ρ H s _ _ S q fun vs xs T' H' h' tk' hT hv S' q' => ?_)
  obtain ⟨m, cs, news, own, X⟩ := S'
  have q' := of_tt q'
  refine newTuple_N X.F X.N (fun h'' F' N' => ?_) (by have := atMost_le q'.1; have := sizeLine_ge; rw [hv.length]; omega)
  obtain ⟨T'', hT', hv', S''⟩ := X.tup hv (X.fr (Nat.le_refl _)) F' N'
  exact p _ _ T'' H' h'' _ (fun z hz => hT' z (hT z hz)) hv' S'' q'.2
noncomputable def listK (Q : QV) (vs : List V) (H : Hp) : Prop := match atMost vs 100000 with | true => ∀ a, H a = none → Q (.ref a) (H.set a (.lst vs)) | false => False
noncomputable def pList (ps : PTs) : PT := fun C ρ H Q => ps C ρ H (listK Q)
theorem SE_list {names : Names} {es : List Expr} {pos : Pos} {Ps : PTs} (hs : SL c names es Ps) : SE c names (.List es pos) (pList Ps) := by
  intro f d C fm hn rm sc T ρ H s Qm Q S q p
  refine List_ (hs f d C fm hn rm sc pos T ρ H s _ _ S q fun vs xs T' H' h' tk' hT hv S' q' => ?_)
  obtain ⟨m, cs, news, own, X⟩ := S'
  have q' := of_tt q'
  refine newList_N X.F X.N (fun h'' F' N' => ?_) (by have := atMost_le q'.1; have := sizeLine_ge; rw [hv.length]; omega)
  obtain ⟨ha, S''⟩ := X.lst (n := 0) hv (X.fr (Nat.le_refl _)) F' N'
  exact p _ _ T' _ h'' _ hT (.ref _) S'' (q'.2 _ ha)

/-! reading by a place -/
noncomputable def bIdx : V → V → Hp → Option V
  | .tup vs, .int k, _ => if 0 ≤ k ∧ vs.length ≤ 1000000 then vs[k.toNat]? else none
  | .str l, .int k, _ => if 0 ≤ k ∧ l.length ≤ 1000000 then l[k.toNat]?.map fun x => .str [x] else none
  | .ref a, .int k, H => match H a with
    | some (.lst vs) => if 0 ≤ k ∧ vs.length ≤ 1000000 then vs[k.toNat]? else none
    | _ => none
  | _, _, _ => none
noncomputable def notSlice : Expr → Bool
  | .Slice _ _ _ _ => false
  | _ => true
theorem subscripted_plain {e : Expr} (he : notSlice e = true) (o i : Value) : subscripted e false o i = operate [o, i] (getItem o i) := by
  induction e using Expr.casesOn <;> first | rfl | cases he
theorem lt_of_get {α : Type} {l : List α} {i : Nat} {x : α} (h : l[i]? = some x) : i < l.length := (List.getElem?_eq_some_iff.mp h).1
theorem SE_sub {names : Names} {v i : Expr} {pos : Pos} {Pv Pi : PT} (hv : SE c names v Pv) (hi : SE c names i Pi) (hn : notSlice i = true) : SE c names (.Subscript v i pos) (pOp2 bIdx Pv Pi) := by
  intro f d C fm hnm rm sc T ρ H s Qm Q S q p
  refine Subscript_ (hv f d C fm hnm rm sc T ρ H s _ _ S q fun a x T' H' h' tk' hT ha S' q' => ?_)
  refine hi f d C fm hnm rm sc T' ρ H' _ _ _ S' q' fun b y T'' H'' h'' tk'' hT' hb S'' q'' => ?_
  have ha := ha.mono hT'
  have hT2 : ∀ z ∈ T, z ∈ T'' := fun z hz => hT' z (hT z hz)
  have q3 := optQ_out q''
  clear q''
  obtain ⟨w, e, q''⟩ := q3
  induction ha using VR.casesOn with
  | tup hm hs => induction hb using VR.casesOn with
    | int k u =>
     simp only [bIdx] at e
     split at e
     · rename_i h0
       obtain ⟨x, hx, hvx⟩ := hs.get e
       have hlt := lt_of_get hx
       have hl := hs.length
       refine item_tupleT (isTup_of (S''.keepT fm.base hm)) (by omega) (by omega) (seqIndex_of h0.1 (by omega)) hx (p _ _ T'' H'' h'' tk'' hT2 hvx S'' q'') (subscripted_plain hn _ _)
     · cases e
    | _ => exact no_some e
  | str l t => induction hb using VR.casesOn with
    | int k u =>
     simp only [bIdx] at e
     split at e
     · rename_i h0
       obtain ⟨d, hd, rfl⟩ := Option.map_eq_some_iff.mp e
       have hlt := lt_of_get hd
       refine tail_any (typeIs_str _ _ _) PySem.F.slot_str_getitem.lookup (P.getItem_str (c := d) (by simp only [Bool.or_eq_false_iff, decide_eq_false_iff_not]; omega) ?_ (p _ _ T'' H'' h'' _ hT2 (.str [d] _) S'' q'')) (subscripted_plain hn _ _)
       rw [show Str.length (⟨l.toArray⟩ : Str) = l.length by simp [Str.length], seqIndex_of h0.1 (by omega)]
       simpa using hd
     · cases e
    | _ => exact no_some e
  | ref r => induction hb using VR.casesOn with
    | int k u =>
     simp only [bIdx] at e
     split at e
     case h_2 => cases e
     rename_i vs hl
     split at e
     · rename_i h0
       obtain ⟨ws, n, h2, h3⟩ := S''.lst hl
       obtain ⟨x, hx, hvx⟩ := h3.get e
       have hlt := lt_of_get hx
       have hll := h3.length
       exact tail_any (isList_of h2).typeIs slot_list_getitem.lookup (wpAny_getItem_list (isList_of h2) h0.1 (by omega) (by simpa using hx) (p _ _ T'' H'' h'' tk'' hT2 hvx S'' q'')) (subscripted_plain hn _ _)
     · cases e
    | _ => exact no_some e
  | _ => exact no_some e

/-! slices -/
noncomputable def slS (l : List Nat) : Option Int → Option Int → Option (List Nat)
  | none, none => some l
  | none, some j => if 0 ≤ j then some (l.take j.toNat) else none
  | some i, none => if 0 ≤ i then some (l.drop i.toNat) else none
  | some i, some j => if 0 ≤ i ∧ 0 ≤ j then some ((l.take j.toNat).drop i.toNat) else none
noncomputable def slL {α : Type} (l : List α) : Option Int → Option Int → Option Int → Option (List α)
  | none, some j, none => if 0 ≤ j then some (l.take j.toNat) else none
  | some i, none, none => if 0 ≤ i then some (l.drop i.toNat) else none
  | none, none, some k => if k = -1 then some l.reverse else none
  | none, some j, some k => if j = 0 ∧ k = -1 then some (l.drop 1).reverse else none
  | _, _, _ => none
noncomputable def partOf : V → Option (Option Int)
  | .none => some none
  | .int i => some (some i)
  | _ => none
theorem isPart_of {T : Led} {v : V} {x : Value} {k : Option Int} (hv : VR T v x) (e : partOf v = some k) : IsPart x k := by
  induction hv using VR.casesOn <;> first | exact no_some e | (obtain rfl := Option.some.inj e; first | exact .none | exact .int _ _)
theorem partValue_of {T : Led} {v : V} {x : Value} {k : Option Int} (hv : VR T v x) (e : partOf v = some k) : ∃ l : Option (Int × Tok), x = partValue l ∧ l.map (·.1) = k := by
  induction hv using VR.casesOn with
  | none => obtain rfl := Option.some.inj e; exact ⟨none, rfl, rfl⟩
  | int i t => obtain rfl := Option.some.inj e; exact ⟨some (i, t), rfl, rfl⟩
  | _ => exact no_some e
theorem strIdx_eq (lo hi : Option Int) (n : Nat) : Builtin.Str.strSliceIndices lo hi 1 n = (List.range ((hi.elim n (clipAt n)) - (lo.elim 0 (clipAt n)))).map ((lo.elim 0 (clipAt n)) + ·) := by
  rw [← sliceRange_one]
  have := sliceBounds_plain lo hi n
  show sliceRange (sliceBounds lo hi none n).1 (sliceBounds lo hi none n).2.1 (sliceBounds lo hi none n).2.2 = _
  rw [this]
theorem slS_clip {l r : List Nat} {lo hi : Option Int} (e : slS l lo hi = some r) : r = (l.drop (lo.elim 0 (clipAt l.length))).take (hi.elim l.length (clipAt l.length) - lo.elim 0 (clipAt l.length)) := by
  unfold slS at e
  split at e
  · obtain rfl := Option.some.inj e; simp
  · rename_i j
    split at e
    · rename_i h; obtain rfl := Option.some.inj e
      obtain ⟨n, rfl⟩ := Int.eq_ofNat_of_zero_le h
      simp [clipAt_nat, List.take_eq_take_iff]
    · cases e
  · rename_i i
    split at e
    · rename_i h; obtain rfl := Option.some.inj e
      obtain ⟨n, rfl⟩ := Int.eq_ofNat_of_zero_le h
      simp only [Option.elim, clipAt_nat, Int.toNat_natCast]
      rw [List.take_of_length_le (by simp)]
      rcases Nat.le_total n l.length with h | h
      · rw [Nat.min_eq_left h]
      · rw [Nat.min_eq_right h, List.drop_of_length_le h, List.drop_of_length_le (Nat.le_refl _)]
    · cases e
  · rename_i i j
    split at e
    · rename_i h; obtain rfl := Option.some.inj e
      obtain ⟨n, rfl⟩ := Int.eq_ofNat_of_zero_le h.1
      obtain ⟨k, rfl⟩ := Int.eq_ofNat_of_zero_le h.2
      simp only [Option.elim, clipAt_nat, Int.toNat_natCast]
      rw [List.drop_take]
      rcases Nat.le_total n l.length with h | h
      · rw [Nat.min_eq_left h]
        rcases Nat.le_total k l.length with h' | h'
        · rw [Nat.min_eq_left h']
        · rw [Nat.min_eq_right h', List.take_of_length_le (by rw [List.length_drop]; exact Nat.sub_le_sub_right h' n), List.take_of_length_le (by rw [List.length_drop]; exact Nat.le_refl _)]
      · rw [Nat.min_eq_right h, List.drop_of_length_le h, List.drop_of_length_le (Nat.le_refl _)]
        simp
    · cases e
theorem pick_str (l : List Nat) (lo hi : Option Int) : (Builtin.Str.strSliceIndices lo hi 1 l.length).filterMap (l.toArray[·]?) = (l.drop (lo.elim 0 (clipAt l.length))).take (hi.elim l.length (clipAt l.length) - lo.elim 0 (clipAt l.length)) := by
  rw [strIdx_eq, pick_run]
theorem clip_le (n : Nat) (i : Int) : clipAt n i ≤ n := by have := clipAt_cast n i; omega
theorem sliceMade_str {l r : List Nat} {t : Tok} {lo hi : Option (Int × Tok)} {Q : Value → Shared → Prop} {s : Shared} (hl : l.length ≤ 1000000) (e : slS l (lo.map (·.1)) (hi.map (·.1)) = some r) (h : ∀ t tk, Q (.str (strOf r) t) { s with toks := tk }) :
    (sliceMade (strOf l) t lo hi none).post Q s := by
  have hlen : Str.length (strOf l) = l.length := by simp [Str.length]
  have e1 : slicePicked (strOf l) lo hi none = Builtin.Str.strSliceIndices (lo.map (·.1)) (hi.map (·.1)) 1 l.length := by unfold slicePicked; rw [hlen]; rfl
  have e2 := pick_str l (lo.map (·.1)) (hi.map (·.1))
  have e3 := slS_clip e
  unfold sliceMade
  rw [e1, hlen]
  split
  · rename_i hc
    simp only [Option.map_none, Option.getD_none, beq_self_eq_true, Bool.true_and, beq_iff_eq] at hc
    have : r = l := by
      rw [strIdx_eq] at hc
      simp only [List.length_map, List.length_range] at hc
      rw [e3, hc]
      have h1 : (hi.map (·.1)).elim l.length (clipAt l.length) ≤ l.length := by
        induction hi using Option.casesOn with
        | none => exact Nat.le_refl _
        | some x => exact clip_le _ _
      by_cases hz : l.length = 0
      · rw [List.eq_nil_of_length_eq_zero hz]; simp
      · have : (lo.map (·.1)).elim 0 (clipAt l.length) = 0 := by omega
        rw [this]; simp
    subst this
    exact h t s.toks
  · show Str.length _ ≤ sizeLine ∧ _
    rw [show (strOf l).cps = l.toArray from rfl, e2, ← e3]
    refine ⟨?_, h _ _⟩
    have : r.length ≤ l.length := by rw [e3]; simp; omega
    have := sizeLine_ge
    simp [Str.length]; omega
theorem pick_rev1 (items : Array Value) : slicePick items none (some 0) (some (-1)) = (items.toList.drop 1).reverse.toArray := by
  unfold slicePick
  by_cases hz : items.size = 0
  · have : items = #[] := Array.eq_empty_of_size_eq_zero hz
    subst this
    simp [sliceBounds, sliceRange]
  · have hb : sliceBounds none (some 0) (some (-1)) items.size = ((items.size : Int) - 1, 0, -1) := by
      unfold sliceBounds
      simp
      omega
    rw [hb]
    have hr : sliceRange ((items.size : Int) - 1) 0 (-1) = ((List.range (items.size - 1)).map (1 + ·)).reverse := by
      unfold sliceRange
      have hcount : ((if (-1 : Int) > 0 then (if (items.size : Int) - 1 < 0 then (0 - ((items.size : Int) - 1) + -1 - 1) / -1 else 0) else if (items.size : Int) - 1 > 0 then ((items.size : Int) - 1 - 0 - -1 - 1) / - -1 else 0) : Int).toNat = items.size - 1 := by
        rw [if_neg (by omega)]
        split
        · have : ((items.size : Int) - 1 - 0 - -1 - 1) / - -1 = (items.size : Int) - 1 := by
            rw [show (- -1 : Int) = 1 by omega, Int.ediv_one]; omega
          rw [this]; omega
        · omega
      dsimp only
      rw [hcount]
      apply List.ext_getElem
      · simp
      · intro i h1 h2
        simp only [List.length_map, List.length_range] at h1
        simp only [List.getElem_map, List.getElem_range, List.getElem_reverse, List.length_map, List.length_range]
        omega
    show ((sliceRange ((items.size : Int) - 1) 0 (-1)).filterMap (items[·]?)).toArray = _
    rw [hr, List.filterMap_reverse, pick_run]
    congr 2
    rw [List.take_of_length_le (by simp)]
theorem slL_pick {xs r : List Value} {lo hi st : Option Int} (e : slL xs lo hi st = some r) : slicePick xs.toArray lo hi st = r.toArray ∧ st ≠ some 0 := by
  unfold slL at e
  split at e
  · rename_i j
    split at e
    · rename_i h; obtain rfl := Option.some.inj e
      obtain ⟨n, rfl⟩ := Int.eq_ofNat_of_zero_le h
      exact ⟨by rw [slicePick_upto']; simp, by simp⟩
    · cases e
  · rename_i j
    split at e
    · rename_i h; obtain rfl := Option.some.inj e
      obtain ⟨n, rfl⟩ := Int.eq_ofNat_of_zero_le h
      exact ⟨by rw [slicePick_from']; simp, by simp⟩
    · cases e
  · split at e
    · rename_i h; obtain rfl := Option.some.inj e; subst h
      exact ⟨by rw [krv_pick], by simp⟩
    · cases e
  · split at e
    · rename_i h; obtain rfl := Option.some.inj e; obtain ⟨rfl, rfl⟩ := h
      exact ⟨by rw [pick_rev1], by simp⟩
    · cases e
  · cases e
theorem slL_VRs {T : Led} {vs rs : List V} {xs : List Value} {lo hi st : Option Int} (hv : VRs T vs xs) (e : slL vs lo hi st = some rs) : ∃ ys, slL xs lo hi st = some ys ∧ VRs T rs ys := by
  have tk : ∀ n, VRs T (vs.take n) (xs.take n) := by
    clear e
    induction vs generalizing xs with
    | nil => intro n; cases hv; simp; exact .nil
    | cons v vs ih =>
      cases hv with | cons a b =>
      intro n
      induction n using Nat.casesOn with
      | zero => exact .nil
      | succ n => exact .cons a (ih b n)
  have dr : ∀ n, VRs T (vs.drop n) (xs.drop n) := by
    clear e tk
    induction vs generalizing xs with
    | nil => intro n; cases hv; simp; exact .nil
    | cons v vs ih =>
      cases hv with | cons a b =>
      intro n
      induction n using Nat.casesOn with
      | zero => exact .cons a b
      | succ n => exact ih b n
  have rv : ∀ {vs : List V} {xs : List Value}, VRs T vs xs → VRs T vs.reverse xs.reverse := by
    intro vs
    induction vs with
    | nil => intro xs h; cases h; exact .nil
    | cons v vs ih => intro xs h; cases h with | cons a b => simp only [List.reverse_cons]; exact (ih b).append (.one a)
  unfold slL at e
  split at e
  · split at e
    · rename_i h; obtain rfl := Option.some.inj e; exact ⟨_, by simp only [slL]; rw [if_pos h], tk _⟩
    · cases e
  · split at e
    · rename_i h; obtain rfl := Option.some.inj e; exact ⟨_, by simp only [slL]; rw [if_pos h], dr _⟩
    · cases e
  · split at e
    · rename_i h; obtain rfl := Option.some.inj e; exact ⟨_, by simp only [slL]; rw [if_pos h], rv hv⟩
    · cases e
  · split at e
    · rename_i h; obtain rfl := Option.some.inj e; exact ⟨_, by simp only [slL]; rw [if_pos h], rv (dr _)⟩
    · cases e
  · cases e
/-- a slice's end -/
noncomputable def slQ (a l u k : V) (H : Hp) (Q : QV) : Prop := match partOf l, partOf u, partOf k with
  | some lo, some hi, some st => (match a with
    | .str x => (match st with
      | none => (match slS x lo hi with | some r => x.length ≤ 1000000 ∧ Q (.str r) H | none => False)
      | some _ => False)
    | .ref b => (match H b with
      | some (.lst vs) => (match slL vs lo hi st with | some r => vs.length ≤ 1000000 ∧ ∀ a, H a = none → Q (.ref a) (H.set a (.lst r)) | none => False)
      | _ => False)
    | .rol vs => (match slL vs lo hi st with | some r => vs.length ≤ 1000000 ∧ ∀ a, H a = none → Q (.ref a) (H.set a (.lst r)) | none => False)
    | _ => False)
  | _, _, _ => False
noncomputable def slK4 (a l u : V) (Q : QV) (k : V) (H : Hp) : Prop := slQ a l u k H Q
noncomputable def slK3 (k : PT) (C : Cl) (ρ : List V) (a l : V) (Q : QV) (u : V) (H : Hp) : Prop := k C ρ H (slK4 a l u Q)
noncomputable def slK2 (u k : PT) (C : Cl) (ρ : List V) (a : V) (Q : QV) (l : V) (H : Hp) : Prop := u C ρ H (slK3 k C ρ a l Q)
noncomputable def slK1 (l u k : PT) (C : Cl) (ρ : List V) (Q : QV) (a : V) (H : Hp) : Prop := l C ρ H (slK2 u k C ρ a Q)
noncomputable def pSl (a l u k : PT) : PT := fun C ρ H Q => a C ρ H (slK1 l u k C ρ Q)
/-- a part of a slice -/
noncomputable def SP (c : Cx) (names : Names) (e : Option Expr) (Pt : PT) : Prop :=
  ∀ (f : Fx) d C, Fm c f → f.names = names → Room f.A d → SC c d C → ∀ T ρ H s Qm Q, St c f T ρ H s.heap → Pt C ρ H Qm → Post c f T ρ s Q Qm → wpAny c.M f.A (evalPart e f.env) Q noE s
theorem SP_none {names : Names} : SP c names none (pVal .none) := fun f d C fm hn rm sc T ρ H s Qm Q S q p => by
  rw [evalPart_none]; exact wpAny_pure (p.now .none S q s.toks)
theorem SP_some {names : Names} {e : Expr} {Pe : PT} (h : SE c names e Pe) : SP c names (some e) Pe := fun f d C fm hn rm sc T ρ H s Qm Q S q p => by
  rw [evalPart_some]; exact h f d C fm hn rm sc T ρ H s Qm Q S q p
theorem SE_slice {names : Names} {v : Expr} {el eu ek : Option Expr} {p' pos : Pos} {Pv Pl Pu Pk : PT} (hv : SE c names v Pv) (hl : SP c names el Pl) (hu : SP c names eu Pu) (hk : SP c names ek Pk) :
    SE c names (.Subscript v (.Slice el eu ek p') pos) (pSl Pv Pl Pu Pk) := by
  intro f d C fm hnm rm sc T ρ H s Qm Q S q p
  refine Subscript_ (hv f d C fm hnm rm sc T ρ H s _ _ S q fun a x T1 H1 h1 tk1 hT1 ha S1 q1 => ?_)
  refine wpAny_Slice (hl f d C fm hnm rm sc T1 ρ H1 _ _ _ S1 q1 fun b y T2 H2 h2 tk2 hT2 hb S2 q2 => ?_)
  refine hu f d C fm hnm rm sc T2 ρ H2 _ _ _ S2 q2 fun b' y' T3 H3 h3 tk3 hT3 hb' S3 q3 => ?_
  refine hk f d C fm hnm rm sc T3 ρ H3 _ _ _ S3 q3 fun b'' y'' T4 H4 h4 tk4 hT4 hb'' S4 q4 => ?_
  have ha := ((ha.mono hT2).mono hT3).mono hT4
  have hb := (hb.mono hT3).mono hT4
  have hb' := hb'.mono hT4
  have hT : ∀ z ∈ T, z ∈ T4 := fun z hz => hT4 z (hT3 z (hT2 z (hT1 z hz)))
  obtain ⟨m, cs, news, own, X⟩ := S4
  have X' := X.pushed { cls := .type "slice", data := .fields #[y, y', y''] } rfl
  unfold slK4 slQ at q4
  split at q4
  case h_2 => exact q4.elim
  rename_i lo hi st e1 e2 e3
  have sub : ∀ o i : Value, ∃ ops, subscripted (.Slice el eu ek p') false o i = operate ops (getItem o i) := fun o i => by induction ek using Option.casesOn <;> exact ⟨_, rfl⟩
  have key : ∀ (r : Nat) (ws : List Value) (vs rs : List V), Heap.IsList (h4.push { cls := .type "slice", data := .fields #[y, y', y''] }) r ws.toArray → VRs T4 vs ws → slL vs lo hi st = some rs →
      (vs.length ≤ 1000000 ∧ ∀ a, H4 a = none → Qm (.ref a) (H4.set a (.lst rs))) →
      wpAny c.M f.A (subscriptTail v (.Slice el eu ek p') (.ref r) (.ref h4.objs.size)) Q noE { s with heap := h4.push { cls := .type "slice", data := .fields #[y, y', y''] }, toks := tk4 } := by
    intro r ws vs rs h5 h6 er q4
    obtain ⟨ys, e7, h7⟩ := slL_VRs h6 er
    obtain ⟨e8, e9⟩ := slL_pick e7
    obtain ⟨ops, hops⟩ := sub (.ref r) (.ref h4.objs.size)
    have hlen := h6.length
    have hsl := sizeLine_ge
    refine tail_any h5.typeIs slot_list_getitem.lookup (wpAny_getItem_list_slice h5 ⟨_, Heap.get?_push_size _ rfl, rfl, rfl⟩ (isPart_of hb e1) (isPart_of hb' e2) (isPart_of hb'' e3) e9 ?_ (by have := q4.1; simp; omega)) hops
    rw [e8]
    obtain ⟨ha, S5⟩ := X'.lst (n := 0) h7 (X'.fr (Nat.le_refl _)) (X'.F.push _) (X'.N.push X'.F (listOf ys.toArray 0) rfl)
    exact p _ _ T4 _ _ _ hT (.ref _) S5 (q4.2 _ ha)
  induction ha using VR.casesOn with
  | str l t =>
    dsimp only at q4
    split at q4
    case h_2 => exact q4.elim
    split at q4
    case h_2 => exact q4.elim
    rename_i r er
    obtain ⟨pl, rfl, rfl⟩ := partValue_of hb e1
    obtain ⟨pu, rfl, rfl⟩ := partValue_of hb' e2
    obtain ⟨pk, rfl, hk0⟩ := partValue_of hb'' e3
    have : pk = none := by induction pk using Option.casesOn with | none => rfl | some z => cases hk0
    subst this
    obtain ⟨ops, hops⟩ := sub (.str ⟨l.toArray⟩ t) (.ref h4.objs.size)
    refine tail_any (typeIs_str _ _ _) PySem.F.slot_str_getitem.lookup (wpAny_getItem_str_slice (l := pl) (u := pu) (st := none) ⟨_, Heap.get?_push_size _ rfl, rfl, rfl⟩ rfl (sliceMade_str q4.1 er fun t tk => ?_)) hops
    exact p _ _ T4 H4 _ tk hT (.str r t) ⟨m, cs, _, _, X'⟩ q4.2
  | ref r =>
    dsimp only at q4
    split at q4
    case h_2 => exact q4.elim
    rename_i vs hvs
    split at q4
    case h_2 => exact q4.elim
    rename_i rs er
    obtain ⟨ws, n, h5, h6⟩ := St.lst (⟨m, cs, _, _, X'⟩ : St c f T4 ρ H4 _) hvs
    exact key r ws vs rs (isList_of h5) h6 er q4
  | @rol r ob vs ws n hm hcl hda h6 =>
    dsimp only at q4
    split at q4
    case h_2 => exact q4.elim
    rename_i rs er
    exact key r ws vs rs ⟨_, St.keepT (⟨m, cs, _, _, X'⟩ : St c f T4 ρ H4 _) fm.base hm, hcl, n, hda⟩ h6 er q4
  | _ => exact q4.elim
end


theorem nm_inj_tab : (List.range 41).all (fun i => (List.range 41).all fun j => i == j || !(nm i == nm j)) = true := by decide +kernel
theorem nm_inj {i j : Nat} (hi : i < 41) (hj : j < 41) (e : nm i = nm j) : i = j := by
  have h := List.all_eq_true.mp (List.all_eq_true.mp nm_inj_tab i (List.mem_range.mpr hi)) j (List.mem_range.mpr hj)
  rw [Bool.or_eq_true] at h
  rcases h with h | h
  · exact beq_iff_eq.mp h
  · rw [e] at h; simp at h
theorem isStr_nm {i j : Nat} {t : Tok} (hi : i < 41) (hj : j < 41) : (Value.str (nm i) t).isStr (nm j) = (i == j) := by
  show (nm i == nm j) = _
  by_cases h : i = j
  · subst h; simp
  · rw [beq_eq_false_iff_ne.mpr h, beq_eq_false_iff_ne]
    exact fun e => h (nm_inj hi hj e)

noncomputable def getF (k : Nat) : List (Nat × V) → Option V
  | [] => none
  | p :: r => match p.1 == k with | true => some p.2 | false => getF k r
noncomputable def putF (k : Nat) (v : V) : List (Nat × V) → List (Nat × V)
  | [] => [(k, v)]
  | p :: r => match p.1 == k with | true => (k, v) :: r | false => p :: putF k v r
theorem FRs.getL {P : DK} {T : Led} {fs : List (Nat × V)} {es : List DictEntry} (h : FRs P T fs es) {k : Nat} (hk : k < 41) :
    match getF k fs with
    | some v => ∃ x, getL (nm k) es = some (some x) ∧ VR T v x
    | none => getL (nm k) es = some none := by
  induction h with
  | nil => rfl
  | @cons i v x t hs fs es hi hv hr ih =>
    by_cases e : i = k
    · subst e
      simp only [getF, beq_self_eq_true]
      refine ⟨x, ?_, hv⟩
      unfold PySem.W.getL
      rw [List.find?_cons, isStr_nm hi hi]
      simp
    · simp only [getF, beq_eq_false_iff_ne.mpr e]
      have h1 : PySem.W.getL (nm k) (⟨hs, .str (nm i) t, x⟩ :: es) = PySem.W.getL (nm k) es := by
        unfold PySem.W.getL
        rw [List.find?_cons, isStr_nm hi hk, beq_eq_false_iff_ne.mpr e, List.any_cons]
        rfl
      rw [h1]
      exact ih
theorem FRs.putL {P : DK} {T : Led} {fs : List (Nat × V)} {es : List DictEntry} (h : FRs P T fs es) {k : Nat} (hk : k < 41) {v : V} {x : Value} (hv : VR T v x) (hs : Int) (t : Tok) :
    FRs P T (putF k v fs) (PySem.W.putL (nm k) hs (.str (nm k) t) x es) := by
  induction h with
  | nil => exact .cons hk hv .nil
  | @cons i w y u hs' fs es hi hw hr ih =>
    unfold PySem.W.putL
    by_cases e : i = k
    · subst e
      rw [isStr_nm hi hi, beq_self_eq_true, if_pos rfl]
      simp only [putF, beq_self_eq_true]
      exact .cons hi hv hr
    · rw [isStr_nm hi hk, beq_eq_false_iff_ne.mpr e]
      simp only [putF, beq_eq_false_iff_ne.mpr e, Bool.false_eq_true, if_false]
      exact .cons hi hw ih
theorem FRs.length {P : DK} {T : Led} {fs : List (Nat × V)} {es : List DictEntry} (h : FRs P T fs es) : es.length = fs.length := by
  induction h with
  | nil => rfl
  | cons _ _ _ ih => simp [ih]
theorem VR.handed {T : Led} {v : V} {x : Value} (h : VR T v x) : handedIn x = true := by induction h using VR.casesOn <;> rfl

section
variable {c : Cx} {f : Fx} {T : Led} {ρ : List V} {H : Hp} {s : Shared}

theorem Sx.ins {h : Heap} {m : Str → Option Value} {cs news : Led} {own : Own} (X : Sx c f T ρ H h m cs news own) {a C : Nat} {fs : List (Nat × V)} (e : H a = some (.ins C fs)) :
    ∃ dx es n, InstAt h a (instObj C dx) C (some (dictOf es n)) ∧ (a, instObj C dx) ∈ news ∧ (dx, dictOf es n) ∈ news ∧ own dx = some a ∧ FRs c.dk T fs es := by
  obtain ⟨_, dx, es, n, h1, h2, h3, h4⟩ := X.r.obj a _ e
  exact ⟨dx, es, n, InstAt.of_news X.N h1 h2, h1, h2, h3, h4⟩

/-- an attribute is read -/
noncomputable def attrI (k : Nat) (H : Hp) (Q : QV) : Option MO → Prop
  | some (.ins C fs) => (match attrOk C k, getF k fs with | true, some v => Q v H | _, _ => False)
  | _ => False
noncomputable def attrQ (k : Nat) (v : V) (H : Hp) (Q : QV) : Prop := match v with
  | .ref a => attrI k H Q (H a)
  | _ => False
noncomputable def attrK (k : Nat) (Q : QV) (v : V) (H : Hp) : Prop := attrQ k v H Q
noncomputable def pAttr (k : Nat) (p : PT) : PT := fun C ρ H Q => p C ρ H (attrK k Q)
theorem attrOk_lt {C k : Nat} (h : attrOk C k = true) : k < 41 := by
  unfold attrOk at h
  obtain ⟨p, hp, h⟩ := List.any_eq_true.mp h
  rw [Bool.and_eq_true] at h
  have : clsTab.all (fun p => p.2.1.all (· < 41)) = true := by decide +kernel
  exact of_decide_eq_true (List.all_eq_true.mp (List.all_eq_true.mp this p hp) k (List.contains_iff_mem.mp h.2))
theorem attrOk_cls {C k : Nat} (h : attrOk C k = true) : ∃ f, iniOf C = some f := by
  unfold attrOk at h
  obtain ⟨p, hp, h⟩ := List.any_eq_true.mp h
  rw [Bool.and_eq_true] at h
  have : clsTab.all (fun p => (iniOf p.1).isSome) = true := by decide +kernel
  have := List.all_eq_true.mp this p hp
  rw [beq_iff_eq.mp h.1] at this
  exact Option.isSome_iff_exists.mp this
theorem attr_read {Q : Value → Shared → Prop} {Qm : QV} {k : Nat} {v : V} {x : Value} (fm : Fm c f) (hv : VR T v x) (S : St c f T ρ H s.heap) (q : attrQ k v H Qm) (p : Post c f T ρ s Q Qm) : wpAny c.M f.A (getAttr x (nm k) true) Q noE s := by
  induction hv using VR.casesOn <;> try exact q.elim
  rename_i a
  simp only [attrQ] at q
  unfold attrI at q
  split at q
  case h_2 => exact q.elim
  rename_i C fs e
  split at q
  case h_2 => exact q.elim
  rename_i mv h1 e2
  have h2 := q
  have S' := S
  obtain ⟨m, cs, news, own, X⟩ := S
  obtain ⟨dx, es, n, I, i1, i2, i3, i4⟩ := X.ins e
  obtain ⟨fI, hC⟩ := attrOk_cls h1
  have g := fm.base.gd.cls C fI hC
  have z := i4.getL (attrOk_lt h1)
  rw [e2] at z
  obtain ⟨y, z1, z2⟩ := z
  exact get_own X.F fm.base.X I g.1 g.2.1 (fm.base.gd.attr C k h1).1 rfl z1 z2.handed (p mv y T H s.heap _ (fun _ z => z) z2 S' h2)
noncomputable def plainBase (e : Expr) : Prop := ∀ x env, attributeBase e x env (eval e env) = eval e env
theorem SE_attr {names : Names} {e : Expr} {x : Str} {k : Nat} {pos : Pos} {Pe : PT} (h : SE c names e Pe) (hb : plainBase e) (hx : x = nm k) : SE c names (.Attribute e x pos) (pAttr k Pe) := by
  intro f d C fm hn rm sc T ρ H s Qm Q S q p
  subst hx
  have e0 : eval (.Attribute e (nm k) pos) f.env = (do
      let o ← attributeBase e (nm k) f.env (eval e f.env)
      standAt pos.atName
      let r ← holding [o] (getAttr o (nm k) true)
      letTemporaryGo e o r
      pure r) := by with_unfolding_all rfl
  rw [hb] at e0
  refine Attribute_any_ (he := e0) (h f d C fm hn rm sc T ρ H s _ _ S q fun v x T' H' h' tk' hT hv S' q' => ?_)
  exact attr_read fm hv S' q' (p.from hT fun _ _ z => z)

/-- an attribute is stored -/
noncomputable def putI (k a : Nat) (v : V) (H : Hp) (Q : Hp → Prop) : Option MO → Prop
  | some (.ins C fs) => (match attrOk C k, atMost fs 100 with | true, true => Q (H.set a (.ins C (putF k v fs))) | _, _ => False)
  | _ => False
noncomputable def putQ (k : Nat) (o v : V) (H : Hp) (Q : Hp → Prop) : Prop := match o with
  | .ref a => putI k a v H Q (H a)
  | _ => False
theorem putF_len (k : Nat) (v : V) (fs : List (Nat × V)) : (putF k v fs).length ≤ fs.length + 1 := by
  induction fs with
  | nil => simp [putF]
  | cons p r ih =>
    unfold putF
    split
    · simp
    · simp; omega
theorem attr_put {Q : Unit → Shared → Prop} {Qm : Hp → Prop} {k : Nat} {o v : V} {x y : Value} (fm : Fm c f) (ho : VR T o x) (hv : VR T v y) (S : St c f T ρ H s.heap) (q : putQ k o v H Qm)
    (p : ∀ H' h' tk', St c f T ρ H' h' → Qm H' → Q () { s with heap := h', toks := tk' }) : wpAny c.M f.A (setAttr x (nm k) y) Q noE s := by
  induction ho using VR.casesOn <;> try exact q.elim
  rename_i a
  simp only [putQ] at q
  unfold putI at q
  split at q
  case h_2 => exact q.elim
  rename_i C fs e
  split at q
  case h_2 => exact q.elim
  rename_i h1 h2
  have h2 := atMost_le h2
  have h3 := q
  obtain ⟨m, cs, news, own, X⟩ := S
  obtain ⟨dx, es, n, I, i1, i2, i3, i4⟩ := X.ins e
  obtain ⟨fI, hC⟩ := attrOk_cls h1
  have g := fm.base.gd.cls C fI hC
  have z := i4.getL (attrOk_lt h1)
  have hl : (PySem.W.getL (nm k) es).isSome = true := by
    split at z
    · obtain ⟨y, z1, _⟩ := z; rw [z1]; rfl
    · rw [z]; rfl
  have N' : Upd dx (dictOf es n) (dictOf (putL (nm k) (PyData.keyHash c.w.params (nm k)) (.str (nm k) (s.toks + 1)) y es) (putN (nm k) es n)) news _ := upd_rep X.r.nd i2
  have hz := i4.putL (attrOk_lt h1) hv (PyData.keyHash c.w.params (nm k)) (s.toks + 1)
  refine set_dict X.F fm.base.X X.N I rfl g.2.2.2.1 g.2.2.1 (fm.base.gd.attr C k h1).2 g.2.1 hl rfl N' ?_ fun h' F' N'' => p _ h' _ ⟨m, cs, _, own, F', N'', X.r.upd e i3 ?_, X.l, X.k, X.z⟩ h3
  · rw [hz.length]; have := putF_len k v fs; omega
  · have hne : a ≠ dx := by
      intro e'
      subst e'
      have := nd_inj X.r.nd i1 i2
      cases this
    exact ⟨dx, _, _, rep_other i1 hne, rep_self i2, i3, hz⟩
end


section
variable {M : Model} {A : Around} {E : Value → Shared → Prop} {s : Shared} {env : Env} {pos : Pos} {K : Frag} {f : Value} {first : List Value} {Q : Value → Shared → Prop}
theorem any_star : ∀ {es : List Expr}, es.all notStar = true → (backTo pos (starEach es env)).any (·.1) = false
  | [], _ => rfl
  | e :: es, h => by
    simp only [List.all_cons, Bool.and_eq_true] at h
    rw [starEach_cons h.1]
    show (false || (backTo pos (starEach es env)).any (·.1)) = false
    rw [any_star h.2]; rfl
theorem evalArgs_all {es : List Expr} (hn : es.all notStar = true) {Q : Args → Shared → Prop} (h : wpAny M A (spliced (backTo pos (starEach es env))) (fun vs s' => Q ⟨vs, []⟩ s') E s) :
    wpAny M A (evalArgs f true (backTo pos (starEach es env)) []) Q E s := by
  induction es using List.casesOn with
  | nil =>
    unfold evalArgs
    show wpAny M A (spliced [] >>= _) Q E s
    refine wpAny_bind (wpAny_mono h (fun vs s' h' => ?_) fun _ _ x => x)
    refine wpAny_bind (wpAny_pure (wpAny_holding ?_))
    exact wpAny_bind (wpAny_pure (wpAny_bind (wpAny_pure (wpAny_pure h'))))
  | cons e es =>
    simp only [List.all_cons, Bool.and_eq_true] at hn
    rw [starEach_cons hn.1] at h ⊢
    exact evalArgs_plain h
theorem cw_K {es : List Expr} (hn : es.all notStar = true) (hk : keepIn K f = true)
    (h : wpAny M A (spliced (backTo pos (starEach es env))) (fun vs s₁ => K.In s₁.heap ∧ wpAny M A (call f (first ++ vs)) Q E s₁) E s) : wpAny M A (callWith pos f first (backTo pos (starEach es env)) []) Q E s :=
  callWith_of (by rw [any_star hn]; rfl) (keeps_K hk) (evalArgs_all hn h)
theorem cw_B {id : String} {es : List Expr} (hn : es.all notStar = true)
    (h : wpAny M A (spliced (backTo pos (starEach es env))) (fun vs s₁ => wpAny M A (call (.builtin id) (first ++ vs)) Q E s₁) E s) : wpAny M A (callWith pos (.builtin id) first (backTo pos (starEach es env)) []) Q E s :=
  callWith_builtin (any_star hn) (evalArgs_all hn h)
theorem cw_T {id : String} {es : List Expr} (hn : es.all notStar = true)
    (h : wpAny M A (spliced (backTo pos (starEach es env))) (fun vs s₁ => wpAny M A (call (.type id) (first ++ vs)) Q E s₁) E s) : wpAny M A (callWith pos (.type id) first (backTo pos (starEach es env)) []) Q E s :=
  PyProof.Rows.callWith_type (any_star hn) (evalArgs_all hn h)
end

/-- a builtin's own answer -/
noncomputable abbrev BL := List V → Hp → QV → Prop
noncomputable def SCall (c : Cx) (fv : Value) (B : BL) : Prop :=
  ∀ f : Fx, Fm c f → Room f.A 0 → ∀ T ρ H s Qm Q vs xs, St c f T ρ H s.heap → VRs T vs xs → B vs H Qm → Post c f T ρ s Q Qm → wpAny c.M f.A (call fv xs) Q noE s

section
variable {c : Cx} {f : Fx} {T : Led} {ρ : List V} {H : Hp} {s : Shared}

theorem St.inK {h : Heap} (S : St c f T ρ H h) (fm : Fm c f) : c.K.In h := by
  obtain ⟨m, cs, news, own, X⟩ := S
  exact fm.base.X.keeps X.F.keep

/-- a function of the text's top is called -/
noncomputable def callK (a : Nat) (C : Cl) (Q : QV) (vs : List V) (H : Hp) : Prop := C a vs H Q
noncomputable def pCall (a : Nat) (ps : PTs) : PT := fun C ρ H Q => ps C ρ H (callK a C Q)
theorem SE_call {names : Names} {x : Str} {np pos : Pos} {es : List Expr} {i : Nat} {a : Nat} {Ps : PTs} (hl : lk x names 0 = some (i, .globalImplicit)) (hg : c.mg x = some (.ref a)) (hk : keepIn c.K (.ref a) = true) (hs : SL c names es Ps)
    (hn : es.all notStar = true) (hd : (x == ("__debug__" : Str)) = false) : SE c names (.Call (.Name x np) es [] pos) (pCall a Ps) := by
  intro f d C fm hnm rm sc T ρ H s Qm Q S q p
  refine Call_ (SE_glob (mv := .ref a) hl hg (.ref a) hd f d C fm hnm rm sc T ρ H s (fun v H' => v = .ref a ∧ H' = H) _ S ⟨rfl, rfl⟩ fun v x T1 H1 h1 tk1 hT1 hv S1 e => ?_)
  obtain ⟨rfl, rfl⟩ := e
  cases hv
  refine cw_K hn hk (hs f d C fm hnm rm sc pos T1 ρ H1 _ _ _ S1 q fun vs xs T2 H2 h2 tk2 hT2 hvs S2 q2 => ⟨S2.inK fm, ?_⟩)
  exact sc f fm rm a vs xs T2 ρ H2 _ _ _ S2 hvs q2 (p.from (fun z hz => hT2 z (hT1 z hz)) fun _ _ z => z)
noncomputable def bltK (B : BL) (Q : QV) (vs : List V) (H : Hp) : Prop := B vs H Q
noncomputable def pBlt (B : BL) (ps : PTs) : PT := fun C ρ H Q => ps C ρ H (bltK B Q)
theorem SE_blt {names : Names} {x : Str} {np pos : Pos} {es : List Expr} {i : Nat} {fv : Value} {B : BL} {Ps : PTs} (hl : lk x names 0 = some (i, .globalImplicit)) (hg : c.mg x = none) (hb : c.mb x = some fv) (hB : SCall c fv B) (hs : SL c names es Ps)
    (hn : es.all notStar = true) (hd : (x == ("__debug__" : Str)) = false) (hf : (∃ id, fv = .builtin id) ∨ ∃ t, fv = .type t) : SE c names (.Call (.Name x np) es [] pos) (pBlt B Ps) := by
  intro f d C fm hnm rm sc T ρ H s Qm Q S q p
  have S' := S
  obtain ⟨m, cs, news, own, X⟩ := S
  have key : wpAny c.M f.A (spliced (backTo pos (starEach es f.env))) (fun vs s₁ => wpAny c.M f.A (call fv ([] ++ vs)) Q noE s₁) noE s :=
    hs f d C fm hnm rm sc pos T ρ H s _ _ S' q fun vs xs T2 H2 h2 tk2 hT2 hvs S2 q2 => hB f fm (rm.le (Nat.zero_le _)) T2 ρ H2 _ _ _ vs xs S2 hvs q2 (p.from hT2 fun _ _ z => z)
  refine Call_ (nameB fm (hnm ▸ hl) hg hb hd X.F fm.base ?_)
  rcases hf with ⟨id, rfl⟩ | ⟨t, rfl⟩
  · exact cw_B hn key
  · exact cw_T hn key

/-- a method of an object of the text's own classes -/
noncomputable def methI (k : Nat) (R : Nat → Prop) : Option MO → Prop
  | some (.ins C fs) => (match attrOk C k, getF k fs, methOf C k with | false, none, some f => R f | _, _, _ => False)
  | _ => False
noncomputable def methQ (k : Nat) (o : V) (H : Hp) (R : Nat → Prop) : Prop := match o with
  | .ref a => methI k R (H a)
  | _ => False
noncomputable def methK3 (C : Cl) (f : Nat) (o : V) (Q : QV) (vs : List V) (H : Hp) : Prop := C f (o :: vs) H Q
noncomputable def methK2 (ps : PTs) (C : Cl) (ρ : List V) (H : Hp) (o : V) (Q : QV) (f : Nat) : Prop := ps C ρ H (methK3 C f o Q)
noncomputable def methK (k : Nat) (ps : PTs) (C : Cl) (ρ : List V) (Q : QV) (o : V) (H : Hp) : Prop := methQ k o H (methK2 ps C ρ H o Q)
noncomputable def pMeth (k : Nat) (po : PT) (ps : PTs) : PT := fun C ρ H Q => po C ρ H (methK k ps C ρ Q)
noncomputable def plainMeth (e : Expr) (x : Str) (ap : Pos) (es : List Expr) (pos : Pos) : Prop := ∀ env, eval (.Call (.Attribute e x ap) es [] pos) env = (do
      let ov ← eval e env
      standAt ap.atName
      let (f, first) ← holding [ov] (getMethod ov x (do return (← importBound e env).getD true))
      callWith pos f first (backTo pos (starEach es env)) (backToKw pos (keywordEach [] env)))
theorem methOf_cls {C k f : Nat} (h : methOf C k = some f) : k < 41 ∧ ∃ g, iniOf C = some g := by
  unfold methOf at h
  obtain ⟨p, hp, h2⟩ := Option.bind_eq_some_iff.mp h
  refine ⟨?_, p.2.2, by unfold iniOf; rw [hp]; rfl⟩
  have : clsTab.all (fun p => p.2.2.1.all fun q => decide (q.1 < 41)) = true := by decide +kernel
  have hm : ∀ {α : Type} {k : Nat} {v : α} {l : List (Nat × α)}, l.lookup k = some v → (k, v) ∈ l := by
    intro α k v l
    induction l with
    | nil => intro h; cases h
    | cons p r ih =>
      intro h
      rw [show p :: r = (p.1, p.2) :: r from rfl, List.lookup_cons] at h
      split at h
      · rename_i e; obtain rfl := Option.some.inj h; rw [beq_iff_eq.mp e]; exact .head _
      · exact .tail _ (ih h)
  have := List.all_eq_true.mp this _ (hm hp)
  exact of_decide_eq_true (List.all_eq_true.mp this _ (hm h2))
theorem SE_meth {names : Names} {e : Expr} {x : Str} {ap pos : Pos} {es : List Expr} {k : Nat} {Po : PT} {Ps : PTs} (he : SE c names e Po) (hs : SL c names es Ps) (hx : x = nm k) (hm : plainMeth e x ap es pos) (hn : es.all notStar = true) :
    SE c names (.Call (.Attribute e x ap) es [] pos) (pMeth k Po Ps) := by
  intro f d C fm hnm rm sc T ρ H s Qm Q S q p
  subst hx
  refine methodCall_KW (pl := (do return (← importBound e f.env).getD true)) (he := hm f.env) (he f d C fm hnm rm sc T ρ H s _ _ S q fun o x T1 H1 h1 tk1 hT1 ho S1 q1 => ?_)
  induction ho using VR.casesOn <;> try exact q1.elim
  rename_i a
  simp only [methK, methQ] at q1
  unfold methI at q1
  split at q1
  case h_2 => exact q1.elim
  rename_i Cn fs eH
  split at q1
  case h_2 => exact q1.elim
  rename_i fa h1' h2' em
  have h3' := q1
  obtain ⟨hk, fI, hC⟩ := methOf_cls em
  have g := fm.base.gd.cls Cn fI hC
  have gm := fm.base.gd.meth Cn k fa em
  have S1' := S1
  obtain ⟨m, cs, news, own, X⟩ := S1
  obtain ⟨dx, es', n, I, i1, i2, i3, i4⟩ := X.ins eH
  have z := i4.getL hk
  rw [h2'] at z
  refine method_inst X.F fm.base.X I g.1 gm.1 gm.2.1 z ?_
  refine cw_K hn gm.2.2 (hs f d C fm hnm rm sc pos T1 ρ H1 _ _ _ S1' h3' fun vs xs T2 H2 h2 tk2 hT2 hvs S2 q2 => ⟨S2.inK fm, ?_⟩)
  exact sc f fm rm fa (.ref a :: vs) (.ref a :: xs) T2 ρ H2 _ _ _ S2 (.cons (.ref a) hvs) q2 (p.from (fun z hz => hT2 z (hT1 z hz)) fun _ _ z => z)

/-- a method of a list -/
noncomputable def isLstI (A : Prop) : Option MO → Prop
  | some (.lst _) => A
  | _ => False
noncomputable def isLst (A : Prop) (o : V) (H : Hp) : Prop := match o with
  | .ref a => isLstI A (H a)
  | _ => False
noncomputable def lmK2 (B : BL) (o : V) (Q : QV) (vs : List V) (H : Hp) : Prop := B (o :: vs) H Q
noncomputable def lmK (B : BL) (ps : PTs) (C : Cl) (ρ : List V) (Q : QV) (o : V) (H : Hp) : Prop := isLst (ps C ρ H (lmK2 B o Q)) o H
noncomputable def pLm (B : BL) (po : PT) (ps : PTs) : PT := fun C ρ H Q => po C ρ H (lmK B ps C ρ Q)
theorem isLst_out {A : Prop} {o : V} {x : Value} (ho : VR T o x) (h : isLst A o H) : (∃ a vs, o = .ref a ∧ x = .ref a ∧ H a = some (.lst vs)) ∧ A := by
  induction ho using VR.casesOn <;> try exact h.elim
  rename_i a
  simp only [isLst] at h
  unfold isLstI at h
  split at h
  · rename_i vs e; exact ⟨⟨a, vs, rfl, rfl, e⟩, h⟩
  · exact h.elim
theorem SE_lm {names : Names} {e : Expr} {x : Str} {ap pos : Pos} {es : List Expr} {id : String} {B : BL} {Po : PT} {Ps : PTs} (he : SE c names e Po) (hs : SL c names es Ps) (hB : SCall c (.builtin id) B) (slot : Slot "list" x id)
    (hty : typeOf (.builtin id) = pure (.type "method_descriptor")) (hm : plainMeth e x ap es pos) (hn : es.all notStar = true) :
    SE c names (.Call (.Attribute e x ap) es [] pos) (pLm B Po Ps) := by
  intro f d C fm hnm rm sc T ρ H s Qm Q S q p
  refine methodCall_KW (pl := (do return (← importBound e f.env).getD true)) (he := hm f.env) (he f d C fm hnm rm sc T ρ H s _ _ S q fun o x T1 H1 h1 tk1 hT1 ho S1 q1 => ?_)
  obtain ⟨⟨a, vs, rfl, rfl, eH⟩, q1⟩ := isLst_out ho q1
  have S1' := S1
  obtain ⟨m, cs, news, own, X⟩ := S1
  obtain ⟨_, ws, n, i1, i2⟩ := X.r.obj a _ eH
  refine kl_method X.N i1 slot hty ?_
  refine cw_B hn (hs f d C fm hnm rm sc pos T1 ρ H1 _ _ _ S1' q1 fun vs xs T2 H2 h2 tk2 hT2 hvs S2 q2 => ?_)
  exact hB f fm (rm.le (Nat.zero_le _)) T2 ρ H2 _ _ _ (.ref a :: vs) (.ref a :: xs) S2 (.cons (.ref a) hvs) q2 (p.from (fun z hz => hT2 z (hT1 z hz)) fun _ _ z => z)
end

/-! the lists' methods -/
noncomputable def onLstI (a : Nat) (R : Nat → List V → Prop) : Option MO → Prop
  | some (.lst vs) => vs.length ≤ 100000 ∧ R a vs
  | _ => False
noncomputable def onLst (o : V) (H : Hp) (R : Nat → List V → Prop) : Prop := match o with
  | .ref a => onLstI a R (H a)
  | _ => False
theorem onLst_out {T : Led} {H : Hp} {o : V} {x : Value} {R : Nat → List V → Prop} (ho : VR T o x) (h : onLst o H R) : ∃ a vs, o = .ref a ∧ x = .ref a ∧ H a = some (.lst vs) ∧ vs.length ≤ 100000 ∧ R a vs := by
  induction ho using VR.casesOn <;> try exact h.elim
  rename_i a
  simp only [onLst] at h
  unfold onLstI at h
  split at h
  · rename_i vs e; exact ⟨a, vs, rfl, rfl, e, h⟩
  · exact h.elim
noncomputable def bAppend : BL := fun as H Q => match as with
  | [o, v] => onLst o H fun a vs => Q .none (H.set a (.lst (vs ++ [v])))
  | _ => False
noncomputable def bPop : BL := fun as H Q => match as with
  | [o] => onLst o H fun a vs => (match vs.getLast? with | some v => Q v (H.set a (.lst vs.dropLast)) | none => False)
  | [o, .int i] => onLst o H fun a vs => i = 0 ∧ (match vs with | v :: r => Q v (H.set a (.lst r)) | [] => False)
  | _ => False
noncomputable def bExtend : BL := fun as H Q => match as with
  | [o, b] => onLst o H fun a vs => onLst b H fun _ ws => Q .none (H.set a (.lst (vs ++ ws)))
  | _ => False
noncomputable def bReverse : BL := fun as H Q => match as with
  | [o] => onLst o H fun a vs => Q .none (H.set a (.lst vs.reverse))
  | _ => False
section
variable {c : Cx}
theorem VRs.two {T : Led} {a b : V} {xs : List Value} (h : VRs T [a, b] xs) : ∃ x y, xs = [x, y] ∧ VR T a x ∧ VR T b y := by
  cases h with | cons h1 h2 => cases h2 with | cons h2 h3 => cases h3; exact ⟨_, _, rfl, h1, h2⟩
theorem VRs.uncons {T : Led} {a : V} {as : List V} {xs : List Value} (h : VRs T (a :: as) xs) : ∃ x ys, xs = x :: ys ∧ VR T a x ∧ VRs T as ys := by
  cases h with | cons h1 h2 => exact ⟨_, _, rfl, h1, h2⟩
theorem VRs.single {T : Led} {a : V} {xs : List Value} (h : VRs T [a] xs) : ∃ x, xs = [x] ∧ VR T a x := by
  cases h with | cons h1 h2 => cases h2; exact ⟨_, rfl, h1⟩
/-- a list is changed -/
theorem Sx.relist {f : Fx} {T : Led} {ρ : List V} {H : Hp} {h h' : Heap} {m : Str → Option Value} {cs news : Led} {own : Own} (X : Sx c f T ρ H h m cs news own) {a : Nat} {vs vs' : List V} {xs' : List Value} {n : Nat} (e : H a = some (.lst vs))
    (hv : VRs T vs' xs') (hm : a ∈ news.map (·.1)) (F' : Fr f.g f.L h' m) (N' : News f.g f.L h' (rep a (listOf xs'.toArray n) news)) : St c f T ρ (H.set a (.lst vs')) h' := by
  obtain ⟨p, hp, rfl⟩ := List.mem_map.mp hm
  exact ⟨m, cs, _, own, F', N', X.r.upd e (X.r.obj _ _ e).1 ⟨xs', n, rep_self (x := p.2) hp, hv⟩, X.l, X.k, X.z⟩
theorem SC_append : SCall c (.builtin "list.append") bAppend := by
  intro f fm rm T ρ H s Qm Q vs xs S hv q p
  unfold bAppend at q
  split at q
  case h_2 => exact q.elim
  rename_i o v
  obtain ⟨x, y, rfl, hx, hy⟩ := hv.two
  obtain ⟨a, vs, rfl, rfl, e, hz, q⟩ := onLst_out hx q
  obtain ⟨m, cs, news, own, X⟩ := S
  obtain ⟨_, ws, n, i1, i2⟩ := X.r.obj a _ e
  have hl := i2.length
  have hsl := sizeLine_ge
  refine append_K X.F X.N (upd_rep X.r.nd i1) (fun h' F' N' => p .none .none T _ h' s.toks (fun _ z => z) .none ?_ q) (hsz := by simp; omega)
  refine X.relist (xs' := ws ++ [y]) e (i2.append (.one hy)) (List.mem_map_of_mem i1) F' (n := n + 1) ?_
  simpa using N'
theorem klast_snoc (ys : List Value) (y : Value) : kl_last (ys ++ [y]) = some (ys, y) := by
  induction ys with
  | nil => rfl
  | cons a r ih => induction r using List.casesOn with
    | nil => rfl
    | cons b r => simp only [List.cons_append] at ih ⊢; unfold kl_last; rw [ih]
theorem SC_pop : SCall c (.builtin "list.pop") bPop := by
  intro f fm rm T ρ H s Qm Q vs xs S hv q p
  unfold bPop at q
  split at q
  · rename_i o
    obtain ⟨x, rfl, hx⟩ := hv.single
    obtain ⟨a, vs, rfl, rfl, e, hz, q⟩ := onLst_out hx q
    split at q
    case h_2 => exact q.elim
    rename_i v ev
    obtain ⟨m, cs, news, own, X⟩ := S
    obtain ⟨_, ws, n, i1, i2⟩ := X.r.obj a _ e
    have hl := i2.length
    have hsl := sizeLine_ge
    obtain ⟨p', rfl⟩ := List.getLast?_eq_some_iff.mp ev
    obtain ⟨ys, ys', rfl, j1, j2⟩ := i2.split
    obtain ⟨y, rfl, hy⟩ := j2.single
    have hlast := klast_snoc ys y
    refine kl_pop X.F X.N (its := (ys ++ [y]).toArray) (p := ys) (y := y) (by simpa using hlast) (upd_rep X.r.nd i1) (by simp at hl hz ⊢; omega) (fun h' F' N' => p _ _ T _ h' s.toks (fun _ z => z) hy ?_ q)
    rw [List.dropLast_concat]
    exact X.relist e j1 (List.mem_map_of_mem i1) F' N'
  · rename_i o i
    obtain ⟨x, y, rfl, hx, hy⟩ := hv.two
    obtain ⟨a, vs, rfl, rfl, e, hz, h0, q2⟩ := onLst_out hx q
    subst h0
    split at q2
    case h_2 => exact q2.elim
    rename_i v r
    obtain ⟨m, cs, news, own, X⟩ := S
    obtain ⟨_, ws, n, i1, i2⟩ := X.r.obj a _ e
    have hl := i2.length
    have hsl := sizeLine_ge
    cases hy
    rename_i t
    obtain ⟨y, ys, rfl, j1, j2⟩ := i2.uncons
    refine kl_popAt X.F X.N (its := (y :: ys).toArray) (i := 0) (k := 0) (p := []) (q := ys) (y := y) (by rfl) (by rw [seqIndex_of (by omega) (by simp)]; rfl) rfl (upd_rep X.r.nd i1) (by simp at hl hz ⊢; omega) (fun h' F' N' => p _ _ T _ h' s.toks (fun _ z => z) j1 ?_ q2)
    exact X.relist e j2 (List.mem_map_of_mem i1) F' N'
  · exact q.elim
theorem SC_extend : SCall c (.builtin "list.extend") bExtend := by
  intro f fm rm T ρ H s Qm Q vs xs S hv q p
  unfold bExtend at q
  split at q
  case h_2 => exact q.elim
  rename_i o v
  obtain ⟨x, y, rfl, hx, hy⟩ := hv.two
  obtain ⟨a, vs, rfl, rfl, e, hz, q⟩ := onLst_out hx q
  obtain ⟨b, ws, rfl, rfl, e', hz', q⟩ := onLst_out hy q
  obtain ⟨m, cs, news, own, X⟩ := S
  obtain ⟨_, us, n, i1, i2⟩ := X.r.obj a _ e
  obtain ⟨_, us', n', j1, j2⟩ := X.r.obj b _ e'
  have hl := i2.length
  have hl' := j2.length
  have hsl := sizeLine_ge
  have hno : ¬(!us.toArray.isEmpty && Builtin.List.listTooLong (us.toArray.size + us'.toArray.size)) = true := by
    intro h
    rw [Bool.and_eq_true] at h
    have h2 := h.2
    simp only [Builtin.List.listTooLong, decide_eq_true_eq, List.size_toArray] at h2
    omega
  induction us' using List.casesOn with
  | nil =>
    refine kxn_extend X.F X.N j1 rfl (upd_rep X.r.nd i1) hno (by simp; omega) (by simp; omega) (fun h' F' N' => p .none .none T _ h' s.toks (fun _ z => z) .none ?_ q)
    cases j2
    rw [List.append_nil]
    exact X.relist e i2 (List.mem_map_of_mem i1) F' N'
  | cons u us' =>
    refine kl_extend X.F X.N j1 (l := us ++ u :: us') (by simp) (by simp) (upd_rep X.r.nd i1) hno (by simp; omega) (by simp at hl' ⊢; omega) (fun h' F' N' => p .none .none T _ h' s.toks (fun _ z => z) .none ?_ q)
    exact X.relist e (i2.append j2) (List.mem_map_of_mem i1) F' N'
theorem VRs.reverse {T : Led} : ∀ {vs : List V} {xs : List Value}, VRs T vs xs → VRs T vs.reverse xs.reverse
  | [], _, h => by cases h; exact .nil
  | v :: vs, _, h => by cases h with | cons a b => simp only [List.reverse_cons]; exact (VRs.reverse b).append (.one a)
theorem SC_reverse : SCall c (.builtin "list.reverse") bReverse := by
  intro f fm rm T ρ H s Qm Q vs xs S hv q p
  unfold bReverse at q
  split at q
  case h_2 => exact q.elim
  rename_i o
  obtain ⟨x, rfl, hx⟩ := hv.single
  obtain ⟨a, vs, rfl, rfl, e, hz, q⟩ := onLst_out hx q
  obtain ⟨m, cs, news, own, X⟩ := S
  obtain ⟨_, us, n, i1, i2⟩ := X.r.obj a _ e
  have hl := i2.length
  have hsl := sizeLine_ge
  refine kl_reverse X.F X.N (l := us.reverse) (by simp) (upd_rep X.r.nd i1) (by simp; omega) (fun h' F' N' => p .none .none T _ h' s.toks (fun _ z => z) .none ?_ q)
  exact X.relist e i2.reverse (List.mem_map_of_mem i1) F' N'
end


section
variable {c : Cx} {f : Fx} {T : Led} {ρ : List V} {H : Hp} {s : Shared}
theorem St.kept {h h' : Heap} (S : St c f T ρ H h) (hk : ∀ b o, h.get? b = some o → h'.get? b = some o) : St c f T ρ H h' := by
  obtain ⟨m, cs, news, own, X⟩ := S
  exact ⟨m, cs, news, own, X.F.keeps hk, X.N.grown hk, X.r, X.l, X.k, X.z⟩

/-! builtin functions -/
noncomputable def lenI : Option MO → Option Nat
  | some (.lst vs) => some vs.length
  | _ => none
noncomputable def lenV (v : V) (H : Hp) : Option Nat := match v with
  | .str l => some l.length
  | .tup vs => some vs.length
  | .ref a => lenI (H a)
  | _ => none
noncomputable def bLen : BL := fun as H Q => match as with
  | [v] => (match lenV v H with | some n => n ≤ 1000000 ∧ Q (.int n) H | none => False)
  | _ => False
theorem SC_len : SCall c (.builtin "len") bLen := by
  intro f fm rm T ρ H s Qm Q vs xs S hv q p
  unfold bLen at q
  split at q
  case h_2 => exact q.elim
  rename_i v
  obtain ⟨x, rfl, hx⟩ := hv.single
  split at q
  case h_2 => exact q.elim
  rename_i n e
  obtain ⟨hn, q⟩ := q
  induction hx using VR.casesOn with
  | str l t =>
    simp only [lenV, Option.some.injEq] at e
    subst e
    have hl : Str.length (⟨l.toArray⟩ : Str) = l.length := by simp [Str.length]
    refine P.len_str (by rw [hl]; omega) ?_
    rw [hl]
    exact p (.int l.length) _ T H s.heap _ (fun _ z => z) (.int _ _) S q
  | tup hm hs =>
    simp only [lenV, Option.some.injEq] at e
    subst e
    have hl := hs.length
    refine PyProof.Rows.len_tuple (isTup_of (S.keepT fm.base hm)) (by simp; omega) ?_
    simp only [List.size_toArray, hl]
    exact p (.int _) _ T H s.heap _ (fun _ z => z) (.int _ _) S q
  | ref a =>
    simp only [lenV] at e
    unfold lenI at e
    split at e
    · rename_i vs ea
      obtain rfl := Option.some.inj e
      obtain ⟨ws, k, h2, h3⟩ := S.lst ea
      have hl := h3.length
      refine call_len_list (isList_of h2) (by simp; omega) ?_
      simp only [List.size_toArray, hl]
      exact p (.int _) _ T H s.heap _ (fun _ z => z) (.int _ _) S q
    · cases e
  | _ => cases e

noncomputable def bAbs : BL := fun as H Q => match as with
  | [.int i] => Q (.int (if i < 0 then -i else i)) H
  | _ => False
theorem SC_abs : SCall c (.builtin "abs") bAbs := by
  intro f fm rm T ρ H s Qm Q vs xs S hv q p
  unfold bAbs at q
  split at q
  case h_2 => exact q.elim
  obtain ⟨x, rfl, hx⟩ := hv.single
  cases hx
  exact call_abs_int fun u tk => p (.int _) _ T H s.heap _ (fun _ z => z) (.int _ _) S q
noncomputable def bInt : BL := fun as H Q => match as with
  | [.int i] => Q (.int i) H
  | [.bool b] => Q (.int (if b then 1 else 0)) H
  | _ => False
theorem SC_int : SCall c (.type "int") bInt := by
  intro f fm rm T ρ H s Qm Q vs xs S hv q p
  unfold bInt at q
  split at q
  · obtain ⟨x, rfl, hx⟩ := hv.single
    cases hx
    exact call_int_int (p (.int _) _ T H s.heap s.toks (fun _ z => z) (.int _ _) S q)
  · obtain ⟨x, rfl, hx⟩ := hv.single
    cases hx
    exact call_int_bool (p (.int _) _ T H s.heap _ (fun _ z => z) (.int _ _) S q)
  · exact q.elim
noncomputable def bSum : BL := fun as H Q => match as with
  | [.ref a] => (match H a with
    | some (.lst vs) => (match intsOf vs with | some is => Q (.int is.sum) H | none => False)
    | _ => False)
  | _ => False
theorem SC_sum : SCall c (.builtin "sum") bSum := by
  intro f fm rm T ρ H s Qm Q vs xs S hv q p
  unfold bSum at q
  split at q
  case h_2 => exact q.elim
  rename_i a
  obtain ⟨x, rfl, hx⟩ := hv.single
  cases hx
  split at q
  case h_2 => exact q.elim
  rename_i vs ea
  split at q
  case h_2 => exact q.elim
  rename_i is ei
  obtain ⟨ws, k, h2, h3⟩ := S.lst ea
  obtain ⟨m, cs, news, own, X⟩ := S
  exact LSm.sum_ints X.F X.N fm.hand (isList_of h2) (intsAre_of h3 ei) fun h' tk t' F' N' => p (.int _) _ T H h' tk (fun _ z => z) (.int _ _) ⟨m, cs, news, own, F', N', X.r, X.l, X.k, X.z⟩ q
noncomputable def bCount : BL := fun as H Q => match as with
  | [.ref a, .int i] => (match H a with
    | some (.lst vs) => (match intsOf vs with | some is => Q (.int (is.count i : Nat)) H | none => False)
    | _ => False)
  | _ => False
theorem SC_count : SCall c (.builtin "list.count") bCount := by
  intro f fm rm T ρ H s Qm Q vs xs S hv q p
  unfold bCount at q
  split at q
  case h_2 => exact q.elim
  rename_i a i
  obtain ⟨x, y, rfl, hx, hy⟩ := hv.two
  cases hx
  cases hy
  split at q
  case h_2 => exact q.elim
  rename_i vs ea
  split at q
  case h_2 => exact q.elim
  rename_i is ei
  obtain ⟨ws, k, h2, h3⟩ := S.lst ea
  exact count_list_ints (isList_of h2) (intsAre_of h3 ei) (p (.int _) _ T H s.heap _ (fun _ z => z) (.int _ _) S q)

/-! isinstance -/
noncomputable def bIsiStr (v : V) : Option Bool := match v with
  | .str _ => some true
  | .int _ => some false
  | _ => none
noncomputable def bIsiTup (v : V) : Option Bool := match v with
  | .str _ => some false
  | .int _ => some false
  | _ => none
noncomputable def pIsi (B : V → Option Bool) (p : PT) : PT := fun C ρ H Q => p C ρ H fun v H => match B v with | some b => Q (.bool b) H | none => False
noncomputable def IsiOk (c : Cx) (Tn : String) (B : V → Option Bool) : Prop := ∀ (A : Around) (T : Led) (v : V) (x : Value) (b : Bool) (s : Shared) (Q : Value → Shared → Prop), VR T v x → B v = some b → (∀ tk, Q (.bool b) { s with toks := tk }) →
  wpAny c.M A (call (.builtin "isinstance") [x, .type Tn]) Q noE s
theorem isiOk_str : IsiOk c "str" bIsiStr := by
  intro A T v x b s Q hv e q
  induction hv using VR.casesOn <;> simp only [bIsiStr] at e <;> cases e
  · exact IsiPair.int_str (q _)
  · exact IsiPair.str_str (q s.toks)
theorem isiOk_tup : IsiOk c "tuple" bIsiTup := by
  intro A T v x b s Q hv e q
  induction hv using VR.casesOn <;> simp only [bIsiTup] at e <;> cases e
  · exact IsiPair.int_tuple (q _)
  · exact IsiPair.str_tuple (q _)
theorem SE_isi {names : Names} {x y : Str} {np np' pos : Pos} {e : Expr} {i j : Nat} {Tn : String} {B : V → Option Bool} {Pe : PT} (hl : lk x names 0 = some (i, .globalImplicit)) (hg : c.mg x = none) (hb : c.mb x = some (.builtin "isinstance"))
    (hl' : lk y names 0 = some (j, .globalImplicit)) (hg' : c.mg y = none) (hb' : c.mb y = some (.type Tn)) (hB : IsiOk c Tn B) (he : SE c names e Pe) (hn : notStar e = true)
    (hd : (x == ("__debug__" : Str)) = false) (hd' : (y == ("__debug__" : Str)) = false) : SE c names (.Call (.Name x np) [e, .Name y np'] [] pos) (pIsi B Pe) := by
  intro f d C fm hnm rm sc T ρ H s Qm Q S q p
  have S' := S
  obtain ⟨m, cs, news, own, X⟩ := S
  refine Call_ (nameB fm (hnm ▸ hl) hg hb hd X.F fm.base (cw_B (by simp only [List.all_cons, hn]; rfl) ?_))
  rw [starEach_cons hn]
  refine spliced_cons (he f d C fm hnm rm sc T ρ H s _ _ S' q fun v x T' H' h' tk' hT hv S2 q2 => ?_)
  have S2' := S2
  obtain ⟨m', cs', news', own', X'⟩ := S2
  refine args_cons (nameB fm (hnm ▸ hl') hg' hb' hd' X'.F fm.base (args_nil ?_))
  split at q2
  case h_2 => exact q2.elim
  rename_i b e
  exact hB _ _ _ _ _ _ _ hv e fun tk => p (.bool b) _ T' H' h' tk hT (.bool b) S2' q2

/-! lists out of lists -/
noncomputable def addLQ (x y : V) (H : Hp) (Q : QV) : Prop := match x, y with
  | .ref a, .ref b => (match H a, H b with
    | some (.lst vs), some (.lst ws) => vs.length + ws.length ≤ 100000 ∧ ∀ n, H n = none → Q (.ref n) (H.set n (.lst (vs ++ ws)))
    | _, _ => False)
  | _, _ => False
noncomputable def pAddL (a b : PT) : PT := fun C ρ H Q => a C ρ H fun x H => b C ρ H fun y H => addLQ x y H Q
theorem SE_addl {names : Names} {l r : Expr} {pos : Pos} {Pl Pr : PT} (hl : SE c names l Pl) (hr : SE c names r Pr) : SE c names (.BinOp l .Add r pos) (pAddL Pl Pr) := by
  intro f d C fm hn rm sc T ρ H s Qm Q S q p
  refine wpAny_BinOp (hl f d C fm hn rm sc T ρ H s _ _ S q fun a x T' H' h' tk' hT ha S' q' => ?_)
  refine hr f d C fm hn rm sc T' ρ H' _ _ _ S' q' fun b y T'' H'' h'' tk'' hT' hb S'' q'' => ?_
  unfold addLQ at q''
  split at q''
  case h_2 => exact q''.elim
  rename_i a b
  cases ha
  cases hb
  split at q''
  case h_2 => exact q''.elim
  rename_i vs ws e1 e2
  obtain ⟨xs, n, h1, h2⟩ := S''.lst e1
  obtain ⟨ys, k, h3, h4⟩ := S''.lst e2
  have l1 := h2.length
  have l2 := h4.length
  have hsl := sizeLine_ge
  obtain ⟨m, cs, news, own, X⟩ := S''
  refine add_lists X.F X.N (isList_of h1) (isList_of h3) (fun h3 F' N' => ?_) (by omega)
  obtain ⟨hnew, S3⟩ := X.lst (n := 0) (h2.append h4) (X.fr (Nat.le_refl _)) F' N'
  exact p _ _ T'' _ _ _ (fun z hz => hT' z (hT z hz)) (.ref _) S3 (q''.2 _ hnew)

noncomputable def bMulS : V → V → Hp → Option V
  | .str l, .int n, _ => if 0 ≤ n ∧ n ≤ 1000 ∧ l.length ≤ 100 then some (.str (List.replicate n.toNat l).flatten) else none
  | _, _, _ => none
theorem foldl_rep (l : List Nat) : ∀ (n : Nat) (acc : Array Nat), (List.replicate n l.toArray).foldl (· ++ ·) acc = acc ++ ((List.replicate n l).flatten).toArray := by
  intro n
  induction n with
  | zero => intro acc; simp
  | succ n ih => intro acc; rw [List.replicate_succ, List.foldl_cons, ih, List.replicate_succ, List.flatten_cons]; simp
theorem txtMul (l : List Nat) {n : Int} (h : 0 ≤ n) : Txt.mul (strOf l) n = strOf (List.replicate n.toNat l).flatten := by
  unfold Txt.mul
  split
  · have : n = 0 := by omega
    subst this; rfl
  · split
    · rename_i h1 h2
      rw [Bool.or_eq_true] at h2
      rcases h2 with h2 | h2
      · rw [beq_iff_eq.mp h2]; simp
      · have : l = [] := by simpa [Str.length] using h2
        subst this
        simp
    · show (⟨_⟩ : Str) = ⟨_⟩
      congr 1
      show (List.replicate n.toNat l.toArray).foldl (· ++ ·) #[] = _
      rw [foldl_rep]; simp
theorem SOp2_muls : SOp2 c (binaryOp .Mult) bMulS := by
  intro f fm rm T ρ H s Q a b x y v S ha hb e q
  induction ha using VR.casesOn <;> induction hb using VR.casesOn <;> simp only [bMulS] at e <;> try (cases e; done)
  rename_i l t n u
  split at e
  case isFalse => cases e
  rename_i h0
  cases e
  have hl : Str.length (⟨l.toArray⟩ : Str) = l.length := by simp [Str.length]
  refine SB.mul ⟨?_, fun h1 h2 => ?_, fun h1 h2 => ?_⟩ fun t' k => ?_
  · simp only [Bool.or_eq_false_iff, decide_eq_false_iff_not]; omega
  · rw [hl]
    have h3 : (9223372036854775 : Int) ≤ (2 ^ 63 - 1) / n := by
      rw [Int.le_ediv_iff_mul_le (by omega)]; omega
    omega
  · rw [hl]
    have := sizeLine_ge
    have h4 : l.length * n.toNat ≤ 100 * 1000 := Nat.mul_le_mul h0.2.2 (by omega)
    simp only [Builtin.Str.tooLong, decide_eq_false_iff_not]
    omega
  · rw [show (⟨l.toArray⟩ : Str) = strOf l from rfl, txtMul l h0.1]
    exact q _ s.heap k (.str _ _) S

/-! the empty dict -/
noncomputable def pDict0 : PT := fun _ _ H Q => ∀ n, H n = none → Q (.ref n) (H.set n (.dic 0))
theorem SE_dict0 {names : Names} {pos : Pos} : SE c names (.Dict [] [] pos) pDict0 := by
  intro f d C fm hn rm sc T ρ H s Qm Q S q p
  obtain ⟨m, cs, news, own, X⟩ := S
  refine newDict_K X.F X.N fm.base.lim fun a h' o F' N' fr lo h1 h2 h3 h4 => ?_
  have fr' : ∀ p ∈ news, p.1 ≠ a := fun p hp e => by have := fr p hp; rw [e] at this; exact Nat.lt_irrefl _ this
  refine p (.ref a) _ T (H.set a (.dic 0)) h' s.toks (fun _ z => z) (.ref a) ⟨m, cs, _, _, F', N', X.r.pushO _ _ fr' ⟨o, .head _, [], [], h1, h2, Nat.le_refl _⟩, X.l, X.k, X.z⟩ (q a (X.r.fresh fr'))

/-! the join of a list of texts -/
noncomputable def pJoin (p : PT) : PT := fun C ρ H Q => p C ρ H fun v H => match v with
  | .ref a => (match H a with
    | some (.lst vs) => (match strsOf vs with | some ls => (ls.flatten).length ≤ 100000 ∧ Q (.str ls.flatten) H | none => False)
    | _ => False)
  | _ => False
/-! a list of a range -/
noncomputable def rangeV (a b : Int) : List V := (List.range (b - a).toNat).map fun i => V.int (a + (i : Nat))
noncomputable def rangeOk (a b : Int) : Bool := decide (-1000000 ≤ a) && decide (a ≤ 1000000) && decide (-1000000 ≤ b) && decide (b ≤ 1000000)
noncomputable def pRangeL (a b : PT) : PT := fun C ρ H Q => a C ρ H fun x H => b C ρ H fun y H => match x, y with
  | .int i, .int j => rangeOk i j = true ∧ ∀ n, H n = none → Q (.ref n) (H.set n (.lst (rangeV i j)))
  | _, _ => False
theorem rangeSize_nat (a b : Int) : Builtin.Range.rangeSize a b 1 = ((b - a).toNat : Nat) := by
  rw [rangeSize_one]; split <;> omega
theorem VRs_range {T : Led} (a : Int) : ∀ (n : Nat) (xs : List Value), xs.length = n → (∀ j v, xs[j]? = some v → ∃ t : Tok, v = Value.int (a + (j : Nat) * 1) t) → VRs T ((List.range n).map fun i => V.int (a + (i : Nat))) xs := by
  intro n
  induction n with
  | zero => intro xs hl _; induction xs using List.casesOn with | nil => exact .nil | cons _ _ => cases hl
  | succ n ih =>
    intro xs hl h
    have hne : xs ≠ [] := fun e => by rw [e] at hl; cases hl
    obtain ⟨ys, y, rfl⟩ : ∃ ys y, xs = ys ++ [y] := ⟨xs.dropLast, xs.getLast hne, (List.dropLast_concat_getLast hne).symm⟩
    have hl' : ys.length = n := by simpa using hl
    rw [List.range_succ, List.map_append]
    refine (ih ys hl' fun j v e => h j v ?_).append ?_
    · have : j < ys.length := (List.getElem?_eq_some_iff.mp e).1
      rw [List.getElem?_append_left this]; exact e
    · obtain ⟨t, rfl⟩ := h n y (by rw [← hl', List.getElem?_append_right (Nat.le_refl _)]; simp)
      rw [Int.mul_one]
      exact .one (.int _ _)
theorem SE_rangeL {names : Names} {x y : Str} {np np' pos pos' : Pos} {ea eb : Expr} {i j : Nat} {Pa Pb : PT} (hl : lk x names 0 = some (i, .globalImplicit)) (hg : c.mg x = none) (hb : c.mb x = some (.type "list"))
    (hl' : lk y names 0 = some (j, .globalImplicit)) (hg' : c.mg y = none) (hb' : c.mb y = some (.type "range")) (ha : SE c names ea Pa) (hbb : SE c names eb Pb) (hn : notStar ea = true) (hn' : notStar eb = true)
    (hd : (x == ("__debug__" : Str)) = false) (hd' : (y == ("__debug__" : Str)) = false) : SE c names (.Call (.Name x np) [.Call (.Name y np') [ea, eb] [] pos'] [] pos) (pRangeL Pa Pb) := by
  intro f d C fm hnm rm sc T ρ H s Qm Q S q p
  have S' := S
  obtain ⟨m, cs, news, own, X⟩ := S
  refine Call_ (nameB fm (hnm ▸ hl) hg hb hd X.F fm.base (cw_T (by rfl) (args_cons (Call_ (nameB fm (hnm ▸ hl') hg' hb' hd' X.F fm.base (cw_T (by simp [hn, hn']) ?_))))))
  rw [starEach_cons hn]
  refine spliced_cons (ha f d C fm hnm rm sc T ρ H s _ _ S' q fun v x T1 H1 h1 tk1 hT1 hv S1 q1 => ?_)
  rw [starEach_cons hn']
  refine spliced_cons (hbb f d C fm hnm rm sc T1 ρ H1 _ _ _ S1 q1 fun v' x' T2 H2 h2 tk2 hT2 hv' S2 q2 => args_nil ?_)
  induction hv using VR.casesOn <;> try exact q2.elim
  induction hv' using VR.casesOn <;> try exact q2.elim
  rename_i a t b u
  obtain ⟨hok, q3⟩ := q2
  simp only [rangeOk, Bool.and_eq_true, decide_eq_true_eq] at hok
  refine call_range_2 (args_nil ?_)
  obtain ⟨m2, cs2, news2, own2, X2⟩ := S2
  have X3 := X2.pushed { cls := .type "range", data := .fields #[.int a t, .int b u, .int 1 tk2] } rfl
  refine call_list_range fm.hand (IsRange.new h2 a b 1 t u tk2) (small_one (by omega) (by omega) (by omega) (by omega)) (rangeSize_nat a b) (by omega) fun h' tk acc c' hk hS hacc => ?_
  obtain ⟨l1, l2⟩ := hacc
  have S4 := St.kept ⟨m2, cs2, _, _, X3⟩ hk
  have hvs : VRs T2 (rangeV a b) acc.toList := VRs_range a _ _ (by simpa using l1) fun j v e => l2 j v (by simpa using e)
  have F3 := X3.F.keeps hk
  have N3 := X3.N.grown hk
  have fr : ∀ p ∈ (h2.objs.size, ({ cls := .type "range", data := .fields #[.int a t, .int b u, .int 1 tk2] } : Obj)) :: news2, p.1 ≠ (h2.push { cls := .type "range", data := .fields #[.int a t, .int b u, .int 1 tk2] }).objs.size := X3.fr (Nat.le_refl _)
  have NN : News f.g f.L h' (((h2.push { cls := .type "range", data := .fields #[.int a t, .int b u, .int 1 tk2] }).objs.size, listOf acc.toList.toArray c') :: (h2.objs.size, ({ cls := .type "range", data := .fields #[.int a t, .int b u, .int 1 tk2] } : Obj)) :: news2) := by
    intro p hp
    rcases List.mem_cons.mp hp with rfl | hp
    · refine ⟨by simpa using hS, ?_, ?_⟩
      · intro e
        have := X3.F.ns.lt
        simp only at e
        rw [e] at this
        exact Nat.lt_irrefl _ this
      · cases q : f.g.get? _ with
        | none => rfl
        | some o => have := Heap.lt_size (X3.F.keep _ _ q); exact absurd this (Nat.lt_irrefl _)
    · exact N3 p hp
  obtain ⟨hnew, S5⟩ := X3.lst hvs fr F3 NN
  exact p (.ref _) _ T2 _ h' tk (fun z hz => hT2 z (hT1 z hz)) (.ref _) S5 (q3 _ hnew)
end


inductive MF where
  | next | cont
  | ret (v : V)
inductive FlR (T : Led) : MF → Flow → Prop
  | next : FlR T .next .next
  | cont : FlR T .cont .cont
  | ret {v : V} {x : Value} : VR T v x → FlR T (.ret v) (.ret x)
theorem FlR.mono {T T' : Led} (h : ∀ p ∈ T, p ∈ T') {a : MF} {b : Flow} (r : FlR T a b) : FlR T' a b := by
  induction r using FlR.casesOn with
  | next => exact .next
  | cont => exact .cont
  | ret h' => exact .ret (h'.mono h)
noncomputable abbrev QS := MF → List V → Hp → Prop
noncomputable abbrev ST := Cl → List V → Hp → QS → Prop
/-- a frame of a function's own -/
structure FB (c : Cx) (f : Fx) : Prop extends Fm c f where
  loc : f.env.locals = f.L
  mmT : ∀ m, f.mm m
  R0 : ∀ p ∈ f.R, (∃ v, p.2.data = .cell v) → p.1 < f.L
noncomputable def PostS (c : Cx) (f : Fx) (T : Led) (s : Shared) (Q : Flow → Shared → Prop) (Qm : QS) : Prop :=
  ∀ mf fl T' ρ' H' h' tk', (∀ p ∈ T, p ∈ T') → FlR T' mf fl → St c f T' ρ' H' h' → Qm mf ρ' H' → Q fl { s with heap := h', toks := tk' }
noncomputable def SS (c : Cx) (names : Names) (st : Stmt) (Pt : ST) : Prop :=
  ∀ (f : Fx) d C, FB c f → f.names = names → Room f.A d → SC c d C → ∀ T ρ H s Qm Q, St c f T ρ H s.heap → Pt C ρ H Qm → PostS c f T s Q Qm → wpAny c.M f.A (exec st f.env) Q noE s
noncomputable def SSs (c : Cx) (names : Names) (sts : List Stmt) (Pt : ST) : Prop :=
  ∀ (f : Fx) d C, FB c f → f.names = names → Room f.A d → SC c d C → ∀ T ρ H s Qm Q, St c f T ρ H s.heap → Pt C ρ H Qm → PostS c f T s Q Qm → wpAny c.M f.A (execs sts f.env) Q noE s

section
variable {c : Cx} {f : Fx} {T : Led} {ρ : List V} {H : Hp} {s : Shared}
theorem PostS.from {Q : Flow → Shared → Prop} {Qm Qm' : QS} (p : PostS c f T s Q Qm) {T' : Led} {h : Heap} {tk : Nat} (hT : ∀ q ∈ T, q ∈ T') (hq : ∀ v ρ H, Qm' v ρ H → Qm v ρ H) : PostS c f T' { s with heap := h, toks := tk } Q Qm' :=
  fun mf fl T'' ρ' H' h' tk' h1 h2 h3 h4 => p mf fl T'' ρ' H' h' tk' (fun q hq => h1 q (hT q hq)) h2 h3 (hq _ _ _ h4)

theorem SE_bad {names : Names} {e : Expr} : SE c names e (fun _ _ _ _ => False) := fun _ _ _ _ _ _ _ _ _ _ _ _ _ _ q => q.elim
noncomputable def sBad : ST := fun _ _ _ _ => False
theorem SS_bad {names : Names} {st : Stmt} : SS c names st sBad := fun _ _ _ _ _ _ _ _ _ _ _ _ _ _ q => q.elim
/-! rows of statements -/
noncomputable def sNil : ST := fun _ ρ H Q => Q .next ρ H
noncomputable def seqK (b : ST) (C : Cl) (Q : QS) (fl : MF) (ρ : List V) (H : Hp) : Prop := match fl with
  | .next => b C ρ H Q
  | .cont => Q .cont ρ H
  | .ret v => Q (.ret v) ρ H
noncomputable def sCons (a b : ST) : ST := fun C ρ H Q => a C ρ H (seqK b C Q)
theorem SSs_nil {names : Names} : SSs c names [] sNil := fun f d C fm hn rm sc T ρ H s Qm Q S q p => wpAny_execs_nil (p .next .next T ρ H s.heap s.toks (fun _ z => z) .next S q)
theorem SSs_cons {names : Names} {st : Stmt} {rest : List Stmt} {Pa Pb : ST} (ha : SS c names st Pa) (hb : SSs c names rest Pb) : SSs c names (st :: rest) (sCons Pa Pb) := by
  intro f d C fm hn rm sc T ρ H s Qm Q S q p
  refine wpAny_execs_cons (ha f d C fm hn rm sc T ρ H s _ _ S q fun mf fl T' ρ' H' h' tk' hT hf S' q' => ?_)
  induction hf using FlR.casesOn with
  | next => exact hb f d C fm hn rm sc T' ρ' H' _ _ _ S' q' (p.from hT fun _ _ _ z => z)
  | cont => exact p .cont .cont T' ρ' H' h' tk' hT .cont S' q'
  | ret hv => exact p (.ret _) (.ret _) T' ρ' H' h' tk' hT (.ret hv) S' q'

/-! simple statements -/
noncomputable def retK (ρ : List V) (Q : QS) (v : V) (H : Hp) : Prop := Q (.ret v) ρ H
noncomputable def sRet (p : PT) : ST := fun C ρ H Q => p C ρ H (retK ρ Q)
theorem SS_ret {names : Names} {e : Expr} {pos : Pos} {Pe : PT} (h : SE c names e Pe) : SS c names (.Return (some e) pos) (sRet Pe) := by
  intro f d C fm hn rm sc T ρ H s Qm Q S q p
  exact wpAny_Return_some (h f d C fm.toFm hn rm sc T ρ H s _ _ S q fun v x T' H' h' tk' hT hv S' q' => p (.ret v) (.ret x) T' ρ H' h' tk' hT (.ret hv) S' q')
noncomputable def sCont : ST := fun _ ρ H Q => Q .cont ρ H
theorem SS_cont {names : Names} {pos : Pos} : SS c names (.Continue pos) sCont := fun f d C fm hn rm sc T ρ H s Qm Q S q p =>
  wpAny_Continue (p .cont .cont T ρ H s.heap s.toks (fun _ z => z) .cont S q)
noncomputable def expK (ρ : List V) (Q : QS) (_v : V) (H : Hp) : Prop := Q .next ρ H
noncomputable def sExp (p : PT) : ST := fun C ρ H Q => p C ρ H (expK ρ Q)
noncomputable def noComp : Expr → Bool
  | .ListComp _ _ _ _ | .SetComp _ _ _ _ | .DictComp _ _ _ _ _ => false
  | _ => true
theorem swaps_none {e : Expr} (h : noComp e = true) (t : Option Expr) (n : Nat) (env : Env) : swapsWith e t n env = pure false := by
  induction e using Expr.casesOn <;> first | rfl | cases h
theorem SS_exp {names : Names} {e : Expr} {pos : Pos} {Pe : PT} (h : SE c names e Pe) (hc : noComp e = true) : SS c names (.Expr e pos) (sExp Pe) := by
  intro f d C fm hn rm sc T ρ H s Qm Q S q p
  refine wpAny_Expr_any (h f d C fm.toFm hn rm sc T ρ H s _ _ S q fun v x T' H' h' tk' hT hv S' q' => p .next .next T' ρ H' h' tk' hT .next S' q') ?_ (swaps_none hc _ _ _)
  unfold interactive
  rw [fm.kind]; rfl
noncomputable def ifK (a b : ST) (C : Cl) (ρ : List V) (Q : QS) (x : Bool) (H : Hp) : Prop := match x with | true => a C ρ H Q | false => b C ρ H Q
noncomputable def sIf (t : pTest) (a b : ST) : ST := fun C ρ H Q => t C ρ H (ifK a b C ρ Q)
theorem SS_if {names : Names} {t : Expr} {a b : List Stmt} {pos : Pos} {Pt : pTest} {Pa Pb : ST} (ht : SB c names t Pt) (ha : SSs c names a Pa) (hb : SSs c names b Pb) : SS c names (.If t a b pos) (sIf Pt Pa Pb) := by
  intro f d C fm hn rm sc T ρ H s Qm Q S q p
  refine wpAny_If (ht f d C fm.toFm hn rm sc T ρ H s _ _ S q fun x T' H' h' tk' hT S' q' => ?_)
  induction x using Bool.casesOn with
  | true => exact ha f d C fm hn rm sc T' ρ H' _ _ _ S' q' (p.from hT fun _ _ _ z => z)
  | false => exact hb f d C fm hn rm sc T' ρ H' _ _ _ S' q' (p.from hT fun _ _ _ z => z)

/-! names are stored -/
theorem set_ne {l : List V} {i j : Nat} {v : V} (h : i ≠ j) : (l.set i v)[j]? = l[j]? := List.getElem?_set_ne h
theorem St.store {x : Str} {i : Nat} {k : NameKind} {mv : V} {v : Value} {Q : Unit → Shared → Prop} (fb : FB c f) (hl : lk x f.names 0 = some (i, k)) (hk : k = .local ∨ k = .cell) (hd : (x == ("__debug__" : Str)) = false)
    (S : St c f T ρ H s.heap) (hv : VR T mv v) (q : ∀ h' tk', St c f T (ρ.set i mv) H h' → Q () { s with heap := h', toks := tk' }) : wpAny c.M f.A (storeName f.env x v) Q noE s := by
  obtain ⟨m, cs, news, own, X⟩ := S
  have Xr := X.r
  have Xl := X.l
  have other : ∀ {y : Str} {j : Nat} {k' : NameKind}, lk y f.names 0 = some (j, k') → j ≠ i → y ≠ x := fun e1 e2 e3 => by
    rw [e3, hl] at e1; cases e1; exact e2 rfl
  have noRC : ∀ oC, (f.env.locals, oC) ∈ f.R ++ cs → False := fun oC h => (X.N _ (Xr.R _ h).1).2.1 fb.loc
  rcases hk with rfl | rfl
  · have hx := fb.nms x i _ hl
    refine wpAny_storeName_local hx (fb.loc ▸ X.F.ns) (fun h' hn hs => ?_) (by rw [fb.kind]; rfl)
    rw [fb.loc] at hn hs
    refine q h' _ ⟨_, cs, news, own, X.F.set hn hs, X.N.set hs, X.r, ?_, ⟨X.k.1, X.k.2.1, fb.mmT _⟩, X.z⟩
    intro y j k' w e1 e2 e3 e4
    by_cases hj : j = i
    · subst hj
      have : y = x := lk_inj e1 hl
      subst this
      rw [List.getElem?_set] at e3
      split at e3
      · split at e3
        · obtain rfl := Option.some.inj e3; exact ⟨hd, v, hv, .inl ⟨hx, fb.loc, if_pos rfl⟩⟩
        · cases e3
      · rename_i h; exact absurd rfl h
    · rw [set_ne (Ne.symm hj)] at e3
      obtain ⟨d1, u, d2, d3⟩ := Xl y j k' w e1 e2 e3 e4
      refine ⟨d1, u, d2, ?_⟩
      rcases d3 with ⟨a, b, d⟩ | ⟨a, b, d, e, _⟩ | d
      · exact .inl ⟨a, b, (if_neg (other e1 hj)).trans d⟩
      · exact (noRC _ e).elim
      · exact .inr (.inr d)
  · have hx := fb.nms x i _ hl
    obtain ⟨K1, K2⟩ := X.k.2.1 fb.loc
    obtain ⟨a, o, v0, k1, k2, k3⟩ := K1 x hx
    have k2' : (a, o) ∈ f.R ++ cs := List.mem_append_right _ k2
    have hmem := X.N _ (Xr.R _ k2').1
    have hRa : a ∉ f.R.map (·.1) := fun hq => by
      obtain ⟨p, hp, e⟩ := List.mem_map.mp hq
      have h1 := (Xr.R p (List.mem_append_left _ hp)).1
      have h2 := (Xr.R _ k2').1
      have : p.2 = o := nd_inj Xr.nd (show (a, p.2) ∈ news from e ▸ h1) h2
      have h3 := fb.R0 p hp ⟨v0, this ▸ k3⟩
      have h4 := (X.k.1 _ k2).2
      rw [e] at h3
      exact Nat.lt_irrefl _ (Nat.lt_trans h3 h4)
    have hrep : ∀ o', rep a o' (f.R ++ cs) = f.R ++ rep a o' cs := fun o' => by
      rw [show rep a o' (f.R ++ cs) = rep a o' f.R ++ rep a o' cs from List.map_append, rep_off hRa]
    refine wpAny_storeName_cell fb.kind hx k1 ⟨o, hmem.1, k3⟩ fun h' hc hs => ?_
    obtain ⟨o', ho', hd'⟩ := hc
    have N' : News f.g f.L h' (rep a o' news) := by
      intro p hp
      obtain ⟨r, hr, rfl⟩ := List.mem_map.mp hp
      by_cases e : r.1 = a
      · rw [if_pos e]; exact ⟨ho', hmem.2⟩
      · rw [if_neg e]; exact ⟨(hs.2 _ e).trans (X.N r hr).1, (X.N r hr).2⟩
    have F' : Fr f.g f.L h' m := ⟨X.F.ns.sameBut hs (Ne.symm hmem.2.1), fun b ob e => (hs.2 b (fun q => by rw [q, hmem.2.2] at e; cases e)).trans (X.F.keep b ob e), X.F.above⟩
    have nt : ∀ ws n, o ≠ tupObj ws n := fun ws n e => by rw [e] at k3; cases k3
    have st := q h' s.toks ⟨m, rep a o' cs, rep a o' news, own, F', N', hrep o' ▸ Xr.updC k2' nt, ?_, ?_, X.z⟩
    · exact st
    · intro y j k' w e1 e2 e3 e4
      by_cases hj : j = i
      · subst hj
        have : y = x := lk_inj e1 hl
        subst this
        rw [List.getElem?_set] at e3
        split at e3
        · split at e3
          · obtain rfl := Option.some.inj e3
            refine ⟨hd, v, hv, .inr (.inr ⟨.inl hx, a, o', k1, List.mem_append_right _ (rep_self k2), hd'⟩)⟩
          · cases e3
        · rename_i h; exact absurd rfl h
      · rw [set_ne (Ne.symm hj)] at e3
        obtain ⟨d1, u, d2, d3⟩ := Xl y j k' w e1 e2 e3 e4
        refine ⟨d1, u, d2, ?_⟩
        rcases d3 with d | ⟨_, b, d, e, _⟩ | ⟨d4, a2, o2, d5, d6, d7⟩
        · exact .inl d
        · exact (noRC _ e).elim
        · refine .inr (.inr ⟨d4, a2, o2, d5, hrep o' ▸ rep_other d6 fun e => ?_, d7⟩)
          subst e
          exact other e1 hj (K2 _ _ _ d5 k1)
    · refine ⟨fun p hp => ?_, fun _ => ⟨fun y hy => ?_, K2⟩, X.k.2.2⟩
      · obtain ⟨r, hr, rfl⟩ := List.mem_map.mp hp
        by_cases e : r.1 = a
        · rw [if_pos e]; exact ⟨⟨_, hd'⟩, (X.k.1 _ k2).2⟩
        · rw [if_neg e]; exact X.k.1 r hr
      obtain ⟨a2, o2, v2, d1, d2, d3⟩ := K1 y hy
      by_cases e : a2 = a
      · subst e; exact ⟨a2, o', _, d1, rep_self d2, hd'⟩
      · exact ⟨a2, o2, v2, d1, rep_other d2 e, d3⟩
noncomputable def asgK (i : Nat) (ρ : List V) (Q : QS) (v : V) (H : Hp) : Prop := Q .next (ρ.set i v) H
noncomputable def sAsg (i : Nat) (p : PT) : ST := fun C ρ H Q => p C ρ H (asgK i ρ Q)
theorem SS_asg {names : Names} {x : Str} {i : Nat} {k : NameKind} {e : Expr} {p' pos : Pos} {Pe : PT} (h : SE c names e Pe) (hl : lk x names 0 = some (i, k)) (hk : k = .local ∨ k = .cell) (hd : (x == ("__debug__" : Str)) = false)
    (hc : noComp e = true ∨ k = .cell) : SS c names (.Assign [.Name x p'] e pos) (sAsg i Pe) := by
  intro f d C fm hn rm sc T ρ H s Qm Q S q p
  subst hn
  refine wpAny_Assign_Name (h f d C fm.toFm rfl rm sc T ρ H s _ _ S q fun v x T' H' h' tk' hT hv S' q' => ?_) ?_
  · exact St.store (s := { s with heap := h', toks := tk' }) fm hl hk hd S' hv fun h2 tk2 S2 => p .next .next T' _ H' h2 tk2 hT .next S2 q'
  · rcases hc with hc | rfl
    · exact swaps_none hc _ _ _
    · have hx := fm.nms x i _ hl
      induction e using Expr.casesOn <;> first | rfl | (unfold swapsWith; simp [hx, show (NameKind.cell == NameKind.local) = false from rfl])

/-- an attribute is stored -/
noncomputable def nextK (ρ : List V) (Q : QS) (H : Hp) : Prop := Q .next ρ H
noncomputable def putK2 (k : Nat) (v : V) (ρ : List V) (Q : QS) (w : V) (H : Hp) : Prop := putQ k w v H (nextK ρ Q)
noncomputable def putK (k : Nat) (o : PT) (C : Cl) (ρ : List V) (Q : QS) (v : V) (H : Hp) : Prop := o C ρ H (putK2 k v ρ Q)
noncomputable def sPut (k : Nat) (o p : PT) : ST := fun C ρ H Q => p C ρ H (putK k o C ρ Q)
theorem SS_put {names : Names} {o e : Expr} {x : Str} {k : Nat} {p' pos : Pos} {Po Pe : PT} (ho : SE c names o Po) (h : SE c names e Pe) (hx : x = nm k) (hc : noComp e = true) : SS c names (.Assign [.Attribute o x p'] e pos) (sPut k Po Pe) := by
  intro f d C fm hn rm sc T ρ H s Qm Q S q p
  subst hx
  refine plainObj_wpAny_Assign_Attribute (h f d C fm.toFm hn rm sc T ρ H s _ _ S q fun v x T1 H1 h1 tk1 hT1 hv S1 q1 => ?_) (swaps_none hc _ _ _)
  refine ho f d C fm.toFm hn rm sc T1 ρ H1 _ _ _ S1 q1 fun w y T2 H2 h2 tk2 hT2 hw S2 q2 => ?_
  exact attr_put (s := { s with heap := h2, toks := tk2 }) fm.toFm hw (hv.mono hT2) S2 q2 fun H3 h3 tk3 S3 q3 => p .next .next T2 ρ H3 h3 tk3 (fun z hz => hT2 z (hT1 z hz)) .next S3 q3

/-- a place of a list, or of a dict -/
noncomputable def setQ (a i v : V) (H : Hp) (Q : Hp → Prop) : Prop := match a with
  | .ref a => (match H a, i with
    | some (.lst vs), .int k => 0 ≤ k ∧ k < vs.length ∧ vs.length ≤ 1000000 ∧ Q (H.set a (.lst (vs.set k.toNat v)))
    | some (.dic n), .str _ => n ≤ 1000000 ∧ (match v with | .str _ => True | _ => False) ∧ Q (H.set a (.dic (n + 1)))
    | _, _ => False)
  | _ => False
theorem VRs.set {T : Led} {v : V} {x : Value} (h : VR T v x) : ∀ {vs : List V} {xs : List Value} (n : Nat), VRs T vs xs → VRs T (vs.set n v) (xs.set n x)
  | [], _, _, r => by cases r; exact .nil
  | w :: vs, _, 0, r => by cases r with | cons a b => exact .cons h b
  | w :: vs, _, n + 1, r => by cases r with | cons a b => exact .cons a (VRs.set h n b)
theorem item_put {Q : Unit → Shared → Prop} {Qm : Hp → Prop} {a i v : V} {x y z : Value} (fm : Fm c f) (ha : VR T a x) (hi : VR T i y) (hv : VR T v z) (S : St c f T ρ H s.heap) (q : setQ a i v H Qm)
    (p : ∀ H' h' tk', St c f T ρ H' h' → Qm H' → Q () { s with heap := h', toks := tk' }) : wpAny c.M f.A (setItem x y z) Q noE s := by
  unfold setQ at q
  induction ha using VR.casesOn <;> try exact q.elim
  rename_i a
  dsimp only at q
  obtain ⟨m, cs, news, own, X⟩ := S
  split at q
  · rename_i vs k e
    obtain ⟨h0, h1, h2, q⟩ := q
    cases hi
    rename_i t
    obtain ⟨hown, ws, n, i1, i2⟩ := X.r.obj a _ e
    have hl := i2.length
    refine ki_setAt (items := ws.toArray) (n := n) (X.N _ i1).1 h0 (by omega) (by simp; omega) ?_
    have hs : Heap.SameBut a s.heap (s.heap.update a (Obj.mapSeq (·.setIfInBounds k.toNat z))) := Heap.SameBut.update ..
    have hm := X.N _ i1
    have ho := PySem.IsL.update hm.1 (fun it : Array Value => it.setIfInBounds k.toNat z)
    have e1 : ws.toArray.setIfInBounds k.toNat z = (ws.set k.toNat z).toArray := by apply Array.toList_inj.mp; simp
    rw [e1] at ho
    have N' : News f.g f.L (s.heap.update a (Obj.mapSeq (·.setIfInBounds k.toNat z))) (rep a (listOf (ws.set k.toNat z).toArray (if ((ws.set k.toNat z).toArray.size == ws.toArray.size) = true then n else n + 1)) news) := by
      intro p hp
      obtain ⟨r, hr, rfl⟩ := List.mem_map.mp hp
      by_cases e : r.1 = a
      · rw [if_pos e]; exact ⟨ho, hm.2⟩
      · rw [if_neg e]; exact ⟨(hs.2 _ e).trans (X.N r hr).1, (X.N r hr).2⟩
    exact p _ _ s.toks (X.relist e (i2.set hv _) (List.mem_map_of_mem i1) (X.F.change hs hm.2.1 hm.2.2) N') q
  · rename_i n l e
    obtain ⟨h0, h1, q⟩ := q
    cases hi
    rename_i t
    obtain ⟨hown, o, i1, kvs, D, i2, i3, i4⟩ := X.r.obj a _ e
    have hflat : ∃ d, PyProof.V.Flat z d := by
      induction hv using VR.casesOn <;> first | exact h1.elim | exact ⟨_, PyProof.V.Flat.str _ _⟩
    obtain ⟨d, hd⟩ := hflat
    have hsl := sizeLine_ge
    obtain ⟨pre, post, rfl, _, ea, eb⟩ := (upd_rep (o' := o) X.r.nd i1).split
    refine setItem_madeIn PyProof.V.same_str (strKind_is c.prog c.w _ t) hd X.F X.N ea eb i2 i3 (fun h' o' F' N' j1 j2 => ?_) (by omega)
    have e2 : rep a o' (pre ++ (a, o) :: post) = pre ++ (a, o') :: post := by
      unfold rep
      rw [List.map_append, List.map_cons, if_pos rfl]
      congr 1
      · conv => rhs; rw [← List.map_id pre]
        exact List.map_congr_left fun p hp => if_neg (ea p hp)
      · congr 1
        conv => rhs; rw [← List.map_id post]
        exact List.map_congr_left fun p hp => if_neg (eb p hp)
    refine p _ h' _ ⟨m, cs, _, own, F', N', ?_, X.l, X.k, X.z⟩ q
    rw [← e2]
    exact X.r.upd e hown ⟨o', rep_self i1, _, _, j1, j2, Nat.le_trans (PyProof.V.putD_length_le _ _ _) (Nat.succ_le_succ i4)⟩
  · exact q.elim
noncomputable def setK3 (v w : V) (ρ : List V) (Q : QS) (k : V) (H : Hp) : Prop := setQ w k v H (nextK ρ Q)
noncomputable def setK2 (v : V) (i : PT) (C : Cl) (ρ : List V) (Q : QS) (w : V) (H : Hp) : Prop := i C ρ H (setK3 v w ρ Q)
noncomputable def setK (o i : PT) (C : Cl) (ρ : List V) (Q : QS) (v : V) (H : Hp) : Prop := o C ρ H (setK2 v i C ρ Q)
noncomputable def sSet (o i p : PT) : ST := fun C ρ H Q => p C ρ H (setK o i C ρ Q)
theorem SS_set {names : Names} {o i e : Expr} {p' pos : Pos} {Po Pi Pe : PT} (ho : SE c names o Po) (hi : SE c names i Pi) (h : SE c names e Pe) (hc : noComp e = true) : SS c names (.Assign [.Subscript o i p'] e pos) (sSet Po Pi Pe) := by
  intro f d C fm hn rm sc T ρ H s Qm Q S q p
  refine wpAny_Assign_Subscript (h f d C fm.toFm hn rm sc T ρ H s _ _ S q fun v x T1 H1 h1 tk1 hT1 hv S1 q1 => ?_) (swaps_none hc _ _ _)
  refine ho f d C fm.toFm hn rm sc T1 ρ H1 _ _ _ S1 q1 fun w y T2 H2 h2 tk2 hT2 hw S2 q2 => ?_
  refine hi f d C fm.toFm hn rm sc T2 ρ H2 _ _ _ S2 q2 fun k z T3 H3 h3 tk3 hT3 hk S3 q3 => ?_
  exact item_put (s := { s with heap := h3, toks := tk3 }) fm.toFm (hw.mono hT3) hk ((hv.mono hT2).mono hT3) S3 q3 fun H4 h4 tk4 S4 q4 => p .next .next T3 ρ H4 h4 tk4 (fun z hz => hT3 z (hT2 z (hT1 z hz))) .next S4 q4
end


section
variable {prog : Program} {w : World} {A : Around} {R : Result → Shared → Prop} {s : Shared}
theorem while_step {test : Expr} {body : List Stmt} {env : Env}
    (h : wpAny (model prog w) A (isTrue test env (eval test env)) (fun b s₂ => match b with
      | true => wpAny (model prog w) A (execs body env) (fun f s₃ => match f with
            | .next | .cont => codeAny (model prog w) A (.whileLoop test body [] env) R s₃
            | .brk => R (.ok .next) s₃
            | .ret v => R (.ok (.ret v)) s₃) noE s₂
      | false => R (.ok .next) s₂) noE s) : codeAny (model prog w) A (.whileLoop test body [] env) R s := by
  refine codeAny_of_tree ?_
  show wpAny _ A ((whileTurn test body [] env).onRaise (fun x => do noteFrame x env; theTreesLotGoes x)) _ _ s
  refine wpAny_noted ?_
  simp only [whileTurn]
  refine wpAny_bind (wpAny_mono h (fun b s₂ h₂ => ?_) fun _ _ h' => h'.elim)
  induction b using Bool.casesOn with
  | false =>
    simp only [Bool.false_eq_true, if_false] at h₂ ⊢
    exact wpAny_bind (wpAny_execs_nil (wpAny_pure h₂))
  | true =>
    simp only [if_true] at h₂ ⊢
    refine wpAny_bind (wpAny_mono h₂ (fun f s₃ h₃ => ?_) fun _ _ h' => h'.elim)
    induction f using Flow.casesOn with
    | next => exact wpAny_pure ⟨rfl, h₃⟩
    | cont => exact wpAny_pure ⟨rfl, h₃⟩
    | brk => exact wpAny_pure h₃
    | ret v => exact wpAny_pure h₃
theorem for_step {target : Expr} {it : Value} {body : List Stmt} {env : Env}
    (h : wpAny (model prog w) A (pyNext it) (fun r s₁ => match r with
      | none => R (.ok .next) s₁
      | some v => wpAny (model prog w) A (assign target env v) (fun _ s₂ => wpAny (model prog w) A (execs body env) (fun f s₃ => match f with
            | .next | .cont => codeAny (model prog w) A (.forLoop target it body [] env) R s₃
            | .brk => R (.ok .next) s₃
            | .ret v => R (.ok (.ret v)) s₃) noE s₂) noE s₁) noE s) (ht : ∀ v, letOwnedTupleGo target it v = pure ()) : codeAny (model prog w) A (.forLoop target it body [] env) R s := by
  refine codeAny_of_tree ?_
  show wpAny _ A ((forTurn target it body [] env).onRaise (fun x => do noteFrame x env; theTreesLotGoes x)) _ _ s
  refine wpAny_noted ?_
  simp only [forTurn]
  refine wpAny_bind (wpAny_standAt (wpAny_bind (wpAny_onRaise (wpAny_mono h (fun r s₁ h₁ => ?_) fun _ _ h' => h'.elim))))
  induction r using Option.casesOn with
  | none => exact wpAny_pure ⟨rfl, codeAny_block (wpAny_execs_nil h₁)⟩
  | some v =>
    refine wpAny_bind (wpAny_of_eq (ht v) ?_)
    refine wpAny_bind (wpAny_mono h₁ (fun _ s₂ h₂ => wpAny_bind (wpAny_mono h₂ (fun f s₃ h₃ => ?_) fun _ _ h' => h'.elim)) fun _ _ h' => h'.elim)
    induction f using Flow.casesOn with
    | next => exact wpAny_pure ⟨rfl, h₃⟩
    | cont => exact wpAny_pure ⟨rfl, h₃⟩
    | brk => exact wpAny_pure h₃
    | ret v => exact wpAny_pure h₃
end

section
variable {c : Cx} {f : Fx} {T : Led} {ρ : List V} {H : Hp} {s : Shared}

/-! two names at once -/
theorem unpack_V {vs : List V} {x : Value} {n : Nat} {Q : List Value → Shared → Prop} (fm : Fm c f) (hv : VR T (.tup vs) x) (hn : n = vs.length) (S : St c f T ρ H s.heap)
    (q : ∀ h' xs, VRs T vs xs → St c f T ρ H h' → Q xs { s with heap := h' }) : wpAny c.M f.A (unpackItems x n none) Q noE s := by
  cases hv with | tup hm hs =>
  rename_i a ws k
  have e : n = ws.toArray.size := by rw [hn, List.size_toArray, hs.length]
  subst e
  refine unpackItems_tuple fm.hand (isTup_of (S.keepT fm.base hm)) fun h' he => q h' _ (by simpa using hs) (S.kept fun b o e => he b o (Nat.ne_of_lt (Heap.lt_size e)) e)
theorem sole_none {e t : Expr} {n : Nat} {env : Env} (h : noComp e = true) : swapsWithSole [t] e n env = pure false := by unfold swapsWithSole; exact swaps_none h _ _ _
noncomputable def two (v : V) (Q : V → V → Prop) : Prop := match v with
  | .tup [a, b] => Q a b
  | _ => False
theorem two_out {v : V} {Q : V → V → Prop} (h : two v Q) : ∃ a b, v = .tup [a, b] ∧ Q a b := by
  unfold two at h
  split at h
  · exact ⟨_, _, rfl, h⟩
  · exact h.elim
noncomputable def twoK2 (i j : Nat) (ρ : List V) (Q : QS) (H : Hp) (a b : V) : Prop := Q .next ((ρ.set i a).set j b) H
noncomputable def twoK (i j : Nat) (ρ : List V) (Q : QS) (v : V) (H : Hp) : Prop := two v (twoK2 i j ρ Q H)
noncomputable def sTwo (i j : Nat) (p : PT) : ST := fun C ρ H Q => p C ρ H (twoK i j ρ Q)
noncomputable def swapK2 (i j : Nat) (ρ : List V) (Q : QS) (H : Hp) (a b : V) : Prop := Q .next ((ρ.set j b).set i a) H
noncomputable def swapK (i j : Nat) (ρ : List V) (Q : QS) (v : V) (H : Hp) : Prop := two v (swapK2 i j ρ Q H)
noncomputable def sSwap (i j : Nat) (p : PT) : ST := fun C ρ H Q => p C ρ H (swapK i j ρ Q)
theorem SS_two {names : Names} {x y : Str} {i j kk : Nat} {k k' : NameKind} {e : Expr} {px py tp pos : Pos} {Pe : PT} (h : SE c names e Pe) (hl : lk x names 0 = some (i, k)) (hl' : lk y names 0 = some (j, k')) (hk : k = .local ∨ k = .cell) (hk' : k' = .local ∨ k' = .cell)
    (hd : (x == ("__debug__" : Str)) = false) (hd' : (y == ("__debug__" : Str)) = false) (hc : noComp e = true)
    (hw : ∀ env : Env, env.kindOf x = some k → env.kindOf y = some k' → swappedStores [.Tuple [.Name x px, .Name y py] kk tp] e env = pure none) : SS c names (.Assign [.Tuple [.Name x px, .Name y py] kk tp] e pos) (sTwo i j Pe) := by
  intro f d C fm hn rm sc T ρ H s Qm Q S q p
  subst hn
  have kx : f.env.kindOf x = some k := fm.nms x i _ hl
  have ky : f.env.kindOf y = some k' := fm.nms y j _ hl'
  refine Assign_Tuple (h f d C fm.toFm rfl rm sc T ρ H s _ _ S q fun v z T' H' h' tk' hT hv S' q' => ?_) (sole_none hc) (hw _ kx ky)
  obtain ⟨a, b, rfl, q2⟩ := two_out q'
  show wpAny c.M f.A (do standAt tp; unpack z (assignEach [.Name x px, .Name y py] f.env)) _ _ _
  refine wpAny_bind (wpAny_standAt ?_)
  unfold unpack
  refine wpAny_bind (wpAny_holding (unpack_V (s := { s with heap := h', toks := tk' }) fm.toFm hv rfl S' fun h2 xs hxs S2 => ?_))
  obtain ⟨u, u', rfl, hu, hu'⟩ := hxs.two
  show wpAny c.M f.A (do holding [u'] (assign (.Name x px) f.env u); assignInOrder [assign (.Name y py) f.env] [u']) _ _ _
  refine wpAny_bind (wpAny_holding (PyProof.Rows.assign_Name (St.store (s := { s with heap := h2, toks := tk' }) fm hl hk hd S2 hu fun h3 tk3 S3 => ?_)))
  show wpAny c.M f.A (do holding [] (assign (.Name y py) f.env u'); pure ()) _ _ _
  refine wpAny_bind (wpAny_holding (PyProof.Rows.assign_Name (St.store (s := { s with heap := h3, toks := tk3 }) fm hl' hk' hd' S3 hu' fun h4 tk4 S4 => wpAny_pure ?_)))
  exact p .next .next T' _ H' h4 tk4 hT .next S4 q2
theorem SS_swap {names : Names} {x y : Str} {i j kk : Nat} {e : Expr} {px py tp pos : Pos} {Pe : PT} (h : SE c names e Pe) (hl : lk x names 0 = some (i, .local)) (hl' : lk y names 0 = some (j, .local))
    (hd : (x == ("__debug__" : Str)) = false) (hd' : (y == ("__debug__" : Str)) = false) (hc : noComp e = true)
    (hw : ∀ env : Env, env.blockKind = .function → env.kindOf x = some .local → env.kindOf y = some .local → swappedStores [.Tuple [.Name x px, .Name y py] kk tp] e env = pure (some [x, y])) :
    SS c names (.Assign [.Tuple [.Name x px, .Name y py] kk tp] e pos) (sSwap i j Pe) := by
  intro f d C fm hn rm sc T ρ H s Qm Q S q p
  subst hn
  have kx := fm.nms x i _ hl
  have ky := fm.nms y j _ hl'
  have hb : f.env.blockKind = .function := by unfold Env.blockKind; rw [fm.kind]; rfl
  refine Assign_Tuple_swapped (h f d C fm.toFm rfl rm sc T ρ H s _ _ S q fun v z T' H' h' tk' hT hv S' q' => ?_) (sole_none hc) (hw _ hb kx ky)
  obtain ⟨a, b, rfl, q2⟩ := two_out q'
  refine unpack_V (s := { s with heap := h', toks := tk' }) fm.toFm hv rfl S' fun h2 xs hxs S2 => ?_
  obtain ⟨u, u', rfl, hu, hu'⟩ := hxs.two
  show wpAny c.M f.A (do holding [u] (bindName f.env y u'); assignInOrder [bindName f.env x] [u]) _ _ _
  refine wpAny_bind (wpAny_holding (wpAny_bindName (St.store (s := { s with heap := h2, toks := tk' }) fm hl' (.inl rfl) hd' S2 hu' fun h3 tk3 S3 => ?_)))
  show wpAny c.M f.A (do holding [] (bindName f.env x u); pure ()) _ _ _
  refine wpAny_bind (wpAny_holding (wpAny_bindName (St.store (s := { s with heap := h3, toks := tk3 }) fm hl (.inl rfl) hd S3 hu fun h4 tk4 S4 => wpAny_pure ?_)))
  exact p .next .next T' _ H' h4 tk4 hT .next S4 q2
theorem swap_two {x y : Str} {px py tp p2 : Pos} {kk k2 : Nat} {e1 e2 : Expr} (hline : (px.line == py.line) = true) (hne : (x == y) = false) (h1 : notStar e1 = true) (h2 : notStar e2 = true) (hf : [e1, e2].all (foldedForSure 8) = false)
    (hc : [e1, e2].all (constantsAlone 8) = false) : ∀ env : Env, env.blockKind = .function → env.kindOf x = some .local → env.kindOf y = some .local →
      swappedStores [.Tuple [.Name x px, .Name y py] kk tp] (.Tuple [e1, e2] k2 p2) env = pure (some [x, y]) := by
  intro env hb kx ky
  have hline' : py.line = px.line := (beq_iff_eq.mp hline).symm
  have hyx : (y == x) = false := by rw [BEq.comm]; exact hne
  have st : ∀ {e : Expr}, notStar e = true → (match e with | .Starred .. => true | _ => false) = false := fun {e} h => by induction e using Expr.casesOn <;> first | rfl | cases h
  unfold swappedStores
  refine (if_neg (by simp [hb])).trans ?_
  refine (if_neg ?_).trans ?_
  · simp only [List.any_cons, List.any_nil, Bool.or_false, Bool.or_eq_true, not_or, Bool.not_eq_true]
    exact ⟨st h1, st h2⟩
  refine (if_neg ?_).trans ?_
  · simp [kx, ky, hline', Expr.pos, List.eraseDups, List.eraseDupsBy, List.eraseDupsBy.loop, hyx]
  refine (if_neg (by rw [hf]; decide)).trans ?_
  refine (if_neg (by rw [hc]; decide)).trans ?_
  simp [kx, ky, hline', Expr.pos]
theorem swap_none {x y : Str} {px py tp : Pos} {kk : Nat} {e : Expr} (he : (match e with | .Tuple _ _ _ => false | _ => true) = true) : ∀ (k k' : NameKind) (env : Env), env.kindOf x = some k → env.kindOf y = some k' →
    swappedStores [.Tuple [.Name x px, .Name y py] kk tp] e env = pure none := by
  intro k k' env _ _
  induction e using Expr.casesOn <;> first | rfl | cases he
/-! `x += e` -/
theorem inplace_ar {op : Operator} {a b v : V} {x y : Value} {Q : Value → Shared → Prop} (fm : Fm c f) (hop : op = .Add ∨ op = .Sub) (S : St c f T ρ H s.heap) (ha : VR T a x) (hb : VR T b y) (e : bAr op a b H = some v) (hi : ∃ i, a = .int i)
    (q : ∀ val tk', VR T v val → Q val { s with toks := tk' }) : wpAny c.M f.A (inplaceOp op x y) Q noE s := by
  obtain ⟨i, rfl⟩ := hi
  cases ha
  induction hb using VR.casesOn with
  | int j u =>
    rcases hop with rfl | rfl
    · obtain rfl := Option.some.inj e; exact P.iadd_int (q _ _ (.int _ _))
    · obtain rfl := Option.some.inj e; exact P.isub_int (q _ _ (.int _ _))
  | _ => exact no_some e
noncomputable def isInt : V → Prop
  | .int _ => True
  | _ => False
noncomputable def augQ (op : Operator) (a b : V) (H : Hp) (Q : V → Prop) : Prop := match a, b with
  | .int i, .int j => (match op with | .Add => Q (.int (i + j)) | .Sub => Q (.int (i - j)) | _ => False)
  | _, _ => False
theorem augQ_out {op : Operator} {a b : V} {Q : V → Prop} (h : augQ op a b H Q) : (op = .Add ∨ op = .Sub) ∧ (∃ i, a = .int i) ∧ ∃ v, bAr op a b H = some v ∧ Q v := by
  unfold augQ at h
  split at h
  · split at h
    · exact ⟨.inl rfl, ⟨_, rfl⟩, _, rfl, h⟩
    · exact ⟨.inr rfl, ⟨_, rfl⟩, _, rfl, h⟩
    · exact h.elim
  · exact h.elim
noncomputable def augK3 (i : Nat) (ρ : List V) (Q : QS) (H : Hp) (v : V) : Prop := Q .next (ρ.set i v) H
noncomputable def augK2 (i : Nat) (op : Operator) (a : V) (ρ : List V) (Q : QS) (b : V) (H : Hp) : Prop := augQ op a b H (augK3 i ρ Q H)
noncomputable def augK (i : Nat) (op : Operator) (p : PT) (C : Cl) (ρ : List V) (H : Hp) (Q : QS) (a : V) (_H : Hp) : Prop := p C ρ H (augK2 i op a ρ Q)
noncomputable def sAug (i : Nat) (op : Operator) (p : PT) : ST := fun C ρ H Q => pLoc i C ρ H (augK i op p C ρ H Q)
theorem SS_aug {names : Names} {x : Str} {i : Nat} {k : NameKind} {op : Operator} {e : Expr} {p' pos : Pos} {Pe : PT} (h : SE c names e Pe) (hl : lk x names 0 = some (i, k)) (hk : k = .local ∨ k = .cell) (hd : (x == ("__debug__" : Str)) = false) :
    SS c names (.AugAssign (.Name x p') op e pos) (sAug i op Pe) := by
  intro f d C fm hn rm sc T ρ H s Qm Q S q p
  subst hn
  obtain ⟨mv, h1, h2, h3⟩ := pLoc_out q
  have S' := S
  obtain ⟨m, cs, news, own, X⟩ := S
  obtain ⟨_, v, hv, rd⟩ := X.l x i k mv hl (by rcases hk with rfl | rfl <;> simp) h1 h2
  refine wpAny_AugAssign_Name (loadName_Rd fm.kind X.F X.N (fun p hp => (X.r.R p hp).1) rd ?_)
  refine h f d C fm.toFm rfl rm sc T ρ H s _ _ S' h3 fun w y T' H' h' tk' hT hw S1 q1 => ?_
  obtain ⟨o1, o2, u, o3, o4⟩ := augQ_out q1
  refine inplace_ar (s := { s with heap := h', toks := tk' }) fm.toFm o1 S1 (hv.mono hT) hw o3 o2 fun val tk2 hval => ?_
  exact St.store (s := { s with heap := h', toks := tk2 }) fm hl hk hd S1 hval fun h4 tk4 S4 => p .next .next T' _ H' h4 tk4 hT .next S4 o4
noncomputable def augA4 (k : Nat) (w : V) (ρ : List V) (Q : QS) (H : Hp) (v : V) : Prop := putQ k w v H (nextK ρ Q)
noncomputable def augA3 (k : Nat) (op : Operator) (w a : V) (ρ : List V) (Q : QS) (b : V) (H : Hp) : Prop := augQ op a b H (augA4 k w ρ Q H)
noncomputable def augA2 (k : Nat) (op : Operator) (p : PT) (C : Cl) (ρ : List V) (w : V) (Q : QS) (a : V) (H : Hp) : Prop := p C ρ H (augA3 k op w a ρ Q)
noncomputable def augA1 (k : Nat) (op : Operator) (p : PT) (C : Cl) (ρ : List V) (Q : QS) (w : V) (H : Hp) : Prop := attrQ k w H (augA2 k op p C ρ w Q)
noncomputable def sAugA (k : Nat) (op : Operator) (o p : PT) : ST := fun C ρ H Q => o C ρ H (augA1 k op p C ρ Q)
theorem SS_augA {names : Names} {o e : Expr} {x : Str} {k : Nat} {op : Operator} {p' pos : Pos} {Po Pe : PT} (ho : SE c names o Po) (h : SE c names e Pe) (hx : x = nm k) : SS c names (.AugAssign (.Attribute o x p') op e pos) (sAugA k op Po Pe) := by
  intro f d C fm hn rm sc T ρ H s Qm Q S q p
  subst hx
  refine wpAny_AugAssign_AttributeAny (ho f d C fm.toFm hn rm sc T ρ H s _ _ S q fun w y T1 H1 h1 tk1 hT1 hw S1 q1 => ?_)
  refine attr_read (s := { s with heap := h1, toks := tk1 }) fm.toFm hw S1 q1 fun a z T2 H2 h2 tk2 hT2 ha S2 q2 => ?_
  refine h f d C fm.toFm hn rm sc T2 ρ H2 _ _ _ S2 q2 fun b u T3 H3 h3 tk3 hT3 hb S3 q3 => ?_
  obtain ⟨o1, o2, v, o3, o4⟩ := augQ_out q3
  refine inplace_ar (s := { s with heap := h3, toks := tk3 }) fm.toFm o1 S3 (ha.mono hT3) hb o3 o2 fun val tk4 hval => ?_
  exact attr_put (s := { s with heap := h3, toks := tk4 }) fm.toFm ((hw.mono hT2).mono hT3) hval S3 o4 fun H5 h5 tk5 S5 q5 => p .next .next T3 ρ H5 h5 tk5 (fun z hz => hT3 z (hT2 z (hT1 z hz))) .next S5 q5

/-! `while` -/
noncomputable def sWhile (t : pTest) (b : ST) : ST := fun C ρ H Q => ∀ P : List V → Hp → Prop, (∀ ρ H, (t C ρ H fun x H => match x with
  | true => b C ρ H fun fl ρ H => (match fl with | .next => P ρ H | .cont => P ρ H | .ret v => Q (.ret v) ρ H)
  | false => Q .next ρ H) → P ρ H) → P ρ H
theorem SS_while {names : Names} {t : Expr} {b : List Stmt} {pos : Pos} {Pt : pTest} {Pb : ST} (ht : SB c names t Pt) (hb : SSs c names b Pb) : SS c names (.While t b [] pos) (sWhile Pt Pb) := by
  intro f d C fm hn rm sc T ρ H s Qm Q S q p
  refine wpAny_While ?_
  have key := q (fun ρ H => ∀ T' s', (∀ z ∈ T, z ∈ T') → St c f T' ρ H s'.heap → (∃ h tk, s' = { s with heap := h, toks := tk }) → codeAny c.M f.A (.whileLoop t b [] f.env) (fun r s' => match r with | .ok fl => Q fl s' | .error e => cameBackBy c.M f.A f.env noE e s') s') ?_
  · exact key T s (fun _ z => z) S ⟨_, _, rfl⟩
  clear q S
  rintro ρ H q T' s' hT S ⟨h0, tk0, rfl⟩
  refine while_step (ht f d C fm.toFm hn rm sc T' ρ H _ _ _ S q fun x T1 H1 h1 tk1 hT1 S1 q1 => ?_)
  induction x using Bool.casesOn with
  | false => exact p .next .next T1 ρ H1 h1 tk1 (fun z hz => hT1 z (hT z hz)) .next S1 q1
  | true =>
    refine hb f d C fm hn rm sc T1 ρ H1 _ _ _ S1 q1 fun mf fl T2 ρ2 H2 h2 tk2 hT2 hf S2 q2 => ?_
    have hT' : ∀ z ∈ T, z ∈ T2 := fun z hz => hT2 z (hT1 z (hT z hz))
    induction hf using FlR.casesOn with
    | next => exact q2 T2 _ hT' S2 ⟨_, _, rfl⟩
    | cont => exact q2 T2 _ hT' S2 ⟨_, _, rfl⟩
    | ret hv => exact p (.ret _) (.ret _) T2 ρ2 H2 h2 tk2 hT' (.ret hv) S2 q2
end


noncomputable abbrev Fx.withR (f : Fx) (p : Addr × Obj) : Fx := { f with R := p :: f.R }
section
variable {c : Cx} {f : Fx} {T : Led} {ρ : List V} {H : Hp} {s : Shared}

theorem FB.withR (fb : FB c f) {p : Addr × Obj} (hp : ∀ v, p.2.data ≠ .cell v) : FB c (f.withR p) :=
  { base := fb.base, hand := fb.hand, kind := fb.kind, glob := fb.glob, bi := fb.bi, bel := fb.bel, nms := fb.nms, lcs := .inl fb.loc, loc := fb.loc, mmT := fb.mmT,
    R0 := fun q hq => by rcases List.mem_cons.mp hq with rfl | hq; exact fun ⟨v, hv⟩ => absurd hv (hp v); exact fb.R0 q hq }
theorem Rd.sub {env : Env} {L : Addr} {m : Str → Option Value} {RC RC' : Led} {x : Str} {v : Value} (r : Rd env L m RC x v) (hl : env.locals = L → ∀ o, (L, o) ∉ RC) (h0 : env.locals = L) (h : ∀ p ∈ RC, (∃ u, p.2.data = .cell u) → p ∈ RC') : Rd env L m RC' x v := by
  rcases r with r | ⟨_, oC, _, e, _⟩ | ⟨a, b, d, e1, e2, e3⟩
  · exact .inl r
  · exact absurd (h0 ▸ e) (hl h0 oC)
  · exact .inr (.inr ⟨a, b, d, e1, h _ e2 ⟨_, e3⟩, e3⟩)
theorem LocR.sub {names : Names} {env : Env} {L : Addr} {m : Str → Option Value} {RC RC' : Led} (r : LocR names env L m RC T ρ) (hl : env.locals = L → ∀ o, (L, o) ∉ RC) (h0 : env.locals = L) (h : ∀ p ∈ RC, (∃ u, p.2.data = .cell u) → p ∈ RC') : LocR names env L m RC' T ρ :=
  fun x i k mv h1 h2 h3 h4 => let ⟨a, v, b, d⟩ := r x i k mv h1 h2 h3 h4; ⟨a, v, b, d.sub hl h0 h⟩
theorem Sx.noL {h : Heap} {m : Str → Option Value} {cs news : Led} {own : Own} (X : Sx c f T ρ H h m cs news own) : ∀ o, (f.L, o) ∉ f.R ++ cs := fun o ho => (X.N _ (X.r.R _ ho).1).2.1 rfl
theorem Sx.withR {h : Heap} {m : Str → Option Value} {cs news : Led} {own : Own} (X : Sx c f T ρ H h m cs news own) (fb : FB c f) {p : Addr × Obj} (hp : p ∈ news) (ho : own p.1 = none) : Sx c (f.withR p) T ρ H h m cs news own :=
  ⟨X.F, X.N, ⟨X.r.nd, X.r.obj, fun q hq => by rcases List.mem_cons.mp hq with rfl | hq; exact ⟨hp, ho⟩; exact X.r.R q hq, X.r.T⟩, X.l.sub (fun _ => X.noL) fb.loc fun q hq _ => .tail _ hq, X.k, X.z⟩
theorem St.dropR {h : Heap} {p : Addr × Obj} (S : St c (f.withR p) T ρ H h) (fb : FB c f) (hp : ∀ v, p.2.data ≠ .cell v) : St c f T ρ H h := by
  obtain ⟨m, cs, news, own, X⟩ := S
  refine ⟨m, cs, news, own, X.F, X.N, X.r.subR fun q hq => .tail _ hq, X.l.sub (fun _ => X.noL) fb.loc fun q hq hc => ?_, X.k, X.z⟩
  rcases List.mem_cons.mp hq with rfl | hq
  · obtain ⟨u, hu⟩ := hc; exact absurd hu (hp u)
  · exact hq
theorem Sx.iter {h h' : Heap} {m : Str → Option Value} {cs news : Led} {own : Own} {I : Addr} {o o' : Obj} (X : Sx c (f.withR (I, o)) T ρ H h m cs news own) (fb : FB c f) (hI : I ∉ f.R.map (·.1)) (hc : ∀ v, o.data ≠ .cell v) (ht : ∀ ws n, o ≠ tupObj ws n)
    (hs : Heap.SameBut I h h') (ho' : h'.get? I = some o') : Sx c (f.withR (I, o')) T ρ H h' m cs (rep I o' news) own := by
  have hmem := X.r.R (I, o) (.head _)
  have hN := X.N _ hmem.1
  have hcs : I ∉ cs.map (·.1) := fun hq => by
    obtain ⟨p, hp, e⟩ := List.mem_map.mp hq
    obtain ⟨⟨v, hv⟩, _⟩ := X.k.1 p hp
    have h1 := (X.r.R p (List.mem_append_right _ hp)).1
    have : p.2 = o := nd_inj X.r.nd (show (I, p.2) ∈ news from e ▸ h1) hmem.1
    exact hc v (this ▸ hv)
  have hrep : rep I o' ((f.withR (I, o)).R ++ cs) = (f.withR (I, o')).R ++ cs := by
    show (if I = I then (I, o') else (I, o)) :: rep I o' (f.R ++ cs) = (I, o') :: (f.R ++ cs)
    rw [if_pos rfl, show rep I o' (f.R ++ cs) = rep I o' f.R ++ rep I o' cs from List.map_append, rep_off hI, rep_off hcs]
  refine ⟨⟨X.F.ns.sameBut hs (Ne.symm hN.2.1), fun b ob e => (hs.2 b (fun q => by rw [q] at e; have := hN.2.2; simp only at this; rw [this] at e; cases e)).trans (X.F.keep b ob e), X.F.above⟩, fun p hp => ?_, hrep ▸ X.r.updC (.head _) ht, X.l.sub (fun _ => X.noL) fb.loc fun q hq hcell => ?_, X.k, X.z⟩
  · obtain ⟨r, hr, rfl⟩ := List.mem_map.mp hp
    by_cases e : r.1 = I
    · rw [if_pos e]; exact ⟨ho', hN.2⟩
    · rw [if_neg e]; exact ⟨(hs.2 _ e).trans (X.N r hr).1, (X.N r hr).2⟩
  · rcases List.mem_cons.mp hq with rfl | hq
    · obtain ⟨u, hu⟩ := hcell; exact absurd hu (hc u)
    · exact .tail _ hq

theorem Sx.drop {h h' : Heap} {m : Str → Option Value} {cs news : Led} {own : Own} {I : Addr} {o : Obj} (X : Sx c (f.withR (I, o)) T ρ H h m cs news own) (fb : FB c f) (hI : I ∉ f.R.map (·.1)) (hc : ∀ v, o.data ≠ .cell v) (ht : ∀ ws n, o ≠ tupObj ws n)
    (he : ∀ b x, b ≠ I → h.get? b = some x → h'.get? b = some x) : St c f T ρ H h' := by
  have hIn := X.r.R (I, o) (.head _)
  have hN := X.N _ hIn.1
  let news5 := news.filter fun r => r.1 ≠ I
  have inF : ∀ r, r ∈ news → r.1 ≠ I → r ∈ news5 := fun r hr hne => List.mem_filter.mpr ⟨hr, by simpa using hne⟩
  have hRne : ∀ r ∈ f.R ++ cs, r.1 ≠ I := fun r hr e => by
    rcases List.mem_append.mp hr with hr | hr
    · exact hI (List.mem_map.mpr ⟨r, hr, e⟩)
    · obtain ⟨⟨v, hv⟩, _⟩ := X.k.1 r hr
      have h1 := (X.r.R r (.tail _ (List.mem_append_right _ hr))).1
      have : r.2 = o := nd_inj X.r.nd (show (I, r.2) ∈ news from e ▸ h1) hIn.1
      exact hc v (this ▸ hv)
  refine ⟨m, cs, news5, own, ⟨X.F.ns.at' fun o e => he _ o (Ne.symm hN.2.1) e, fun b o e => he b o (fun q => by rw [q] at e; have := hN.2.2; simp only at this; rw [this] at e; cases e) (X.F.keep b o e), X.F.above⟩,
    fun r hr => ?_, ⟨?_, fun b y e => ?_, fun r hr => ?_, fun r hr => ?_⟩, X.l.sub (fun _ => X.noL) fb.loc fun r hr hcell => ?_, X.k, X.z⟩
  · obtain ⟨hr1, hr2⟩ := List.mem_filter.mp hr
    exact ⟨he _ _ (by simpa using hr2) (X.N r hr1).1, (X.N r hr1).2⟩
  · exact (List.filter_sublist.map _).nodup X.r.nd
  · obtain ⟨e1, e2⟩ := X.r.obj b y e
    refine ⟨e1, e2.mono (fun _ z => z) (fun d z hz hd => inF _ hz fun e3 => ?_) fun _ z => z⟩
    simp only at e3
    subst e3
    rcases hd with hd | hd
    · rw [hIn.2] at hd; cases hd
    · rw [← hd, hIn.2] at e1; cases e1
  · obtain ⟨e1, e2⟩ := X.r.R r (.tail _ hr)
    exact ⟨inF r e1 (hRne r hr), e2⟩
  · rcases X.r.T r hr with ⟨e1, e2, ws, n, e3⟩ | e1
    · refine .inl ⟨inF r e1 fun e4 => ?_, e2, ws, n, e3⟩
      have : r.2 = o := nd_inj X.r.nd (show (I, r.2) ∈ news from e4 ▸ e1) hIn.1
      exact ht ws n (this ▸ e3)
    · exact .inr e1
  · rcases List.mem_cons.mp hr with rfl | hr
    · obtain ⟨u, hu⟩ := hcell; exact absurd hu (hc u)
    · exact hr
theorem flds (o : Obj) (fs : Array Value) (e : o.data = .fields fs) : (∀ v, o.data ≠ .cell v) ∧ ∀ ws n, o ≠ tupObj ws n :=
  ⟨fun v e' => (by rw [e] at e'; cases e'), fun ws n e' => (by subst e'; cases e)⟩

/-! `for` over a list -/
noncomputable def forL (a : Nat) (all : List V) (i : Nat) (b : ST) : List V → ST
  | [] => fun C ρ H Q => H a = some (.lst all) ∧ Q .next ρ H
  | v :: r => fun C ρ H Q => H a = some (.lst all) ∧ b C (ρ.set i v) H fun fl ρ H => match fl with
    | .next => forL a all i b r C ρ H Q
    | .cont => forL a all i b r C ρ H Q
    | .ret v => Q (.ret v) ρ H
noncomputable def onList (v : V) (H : Hp) (R : Nat → List V → Prop) : Prop := match v with
  | .ref a => (match H a with | some (.lst vs) => R a vs | _ => False)
  | _ => False
theorem onList_out {v : V} {x : Value} {R : Nat → List V → Prop} (hv : VR T v x) (h : onList v H R) : ∃ a vs, v = .ref a ∧ x = .ref a ∧ H a = some (.lst vs) ∧ R a vs := by
  induction hv using VR.casesOn <;> try exact h.elim
  rename_i a
  simp only [onList] at h
  split at h
  · rename_i vs e; exact ⟨a, vs, rfl, rfl, e, h⟩
  · exact h.elim
noncomputable def sFor (i : Nat) (p : PT) (b : ST) : ST := fun C ρ H Q => p C ρ H fun v H => onList v H fun a vs => forL a vs i b vs C ρ H Q
noncomputable def iterObj (a : Addr) (i : Nat) : Obj := { cls := .type "list_iterator", data := .fields #[.ref a, .int (i : Nat) 0] }
theorem SS_for {names : Names} {x : Str} {i : Nat} {k : NameKind} {e : Expr} {b : List Stmt} {px pos : Pos} {Pe : PT} {Pb : ST} (he : SE c names e Pe) (hb : SSs c names b Pb) (hl : lk x names 0 = some (i, k)) (hk : k = .local ∨ k = .cell) (hd : (x == ("__debug__" : Str)) = false)
    (hs : ∀ env x, foldedSetIterable e env x = pure x) : SS c names (.For (.Name x px) e b [] pos) (sFor i Pe Pb) := by
  intro f d C fm hn rm sc T ρ H s Qm Q S q p
  subst hn
  refine wpAny_For (he f d C fm.toFm rfl rm sc T ρ H s _ _ S q fun v y T' H' h' tk' hT hv S' q' => ?_) (hs _)
  obtain ⟨a, vs, rfl, rfl, ea, q2⟩ := onList_out hv q'
  obtain ⟨ws, n, h2, h3⟩ := S'.lst ea
  refine wpAny_pyIter_list (isList_of h2) ?_
  obtain ⟨m, cs, news, own, X⟩ := S'
  have X2 := X.pushed { cls := .type "list_iterator", data := .fields #[.ref a, .int 0 0] } rfl
  have X3 := X2.withR fm (.head _) (if_pos rfl)
  have hI : h'.objs.size ∉ f.R.map (·.1) := fun hq => by
    obtain ⟨r, hr, e⟩ := List.mem_map.mp hq
    exact X.fr (Nat.le_refl _) r (X.r.R r (List.mem_append_left _ hr)).1 e
  have key : ∀ (r pre : List V) (T1 : Led) (ρ1 : List V) (H1 : Hp) (s1 : Shared) (o : Obj), vs = pre ++ r → (∀ z ∈ T, z ∈ T1) → St c (f.withR (h'.objs.size, o)) T1 ρ1 H1 s1.heap → s1.heap.get? h'.objs.size = some o → o.cls = .type "list_iterator" →
      o.data = .fields #[.ref a, .int (pre.length : Nat) 0] → (∃ h tk, s1 = { s with heap := h, toks := tk }) → forL a vs i Pb r C ρ1 H1 Qm →
      codeAny c.M f.A (.forLoop (.Name x px) (.ref h'.objs.size) b [] f.env) (fun r s' => match r with | .ok fl => Q fl s' | .error e => cameBackBy c.M f.A f.env noE e s') s1 := by
    intro r
    induction r with
    | nil =>
      rintro pre T1 ρ1 H1 s1 o hvs hT1 S1 go oc od ⟨hh, tk, rfl⟩ ⟨q1, q3⟩
      obtain ⟨ws1, n1, h21, h31⟩ := S1.lst q1
      refine for_step (wpAny_pyNext_list_end (l := a) (i := pre.length) fm.hand ⟨o, go, oc, od⟩ (isList_of h21) ?_ fun h5 he5 => ?_) fun _ => rfl
      · have := h31.length; rw [hvs] at this; simp at this ⊢; omega
      obtain ⟨m1, cs1, news1, own1, X1⟩ := S1
      exact p .next .next T1 ρ1 H1 h5 tk hT1 .next (X1.drop fm hI (flds o _ od).1 (flds o _ od).2 fun b2 o2 hb2 e2 => he5 b2 o2 hb2 e2) q3
    | cons v r ih =>
      rintro pre T1 ρ1 H1 s1 o hvs hT1 S1 go oc od ⟨hh, tk, rfl⟩ ⟨q1, q3⟩
      obtain ⟨ws1, n1, h21, h31⟩ := S1.lst q1
      obtain ⟨y, hy, hvy⟩ := h31.get (i := pre.length) (v := v) (by rw [hvs]; simp)
      refine for_step (wpAny_pyNext_list_item (l := a) (i := pre.length) (x := y) ⟨o, go, oc, od⟩ (isList_of h21) (by simpa using hy) fun h5 hit5 hs5 => ?_) fun _ => rfl
      obtain ⟨o5, go5, oc5, od5⟩ := hit5
      obtain ⟨m1, cs1, news1, own1, X1⟩ := S1
      have X5 := X1.iter fm hI (flds o _ od).1 (flds o _ od).2 hs5 go5
      have fb5 := fm.withR (p := (h'.objs.size, o5)) (flds o5 _ od5).1
      refine wpAny_assign_Name (St.store (f := f.withR (h'.objs.size, o5)) (s := { s with heap := h5, toks := tk }) fb5 hl hk hd ⟨_, _, _, _, X5⟩ hvy fun h6 tk6 S6 => ?_)
      refine hb (f.withR (h'.objs.size, o5)) d C fb5 rfl rm sc T1 _ H1 _ _ _ S6 q3 fun mf fl T2 ρ2 H2 h7 tk7 hT2 hf S7 q7 => ?_
      have hT7 : ∀ z ∈ T, z ∈ T2 := fun z hz => hT2 z (hT1 z hz)
      have g7 : h7.get? h'.objs.size = some o5 := by
        obtain ⟨_, _, _, _, X7⟩ := S7
        exact (X7.N _ (X7.r.R _ (.head _)).1).1
      have next := fun q8 => ih (pre ++ [v]) T2 ρ2 H2 { s with heap := h7, toks := tk7 } o5 (by rw [hvs]; simp) hT7 S7 g7 oc5 (by rw [od5]; simp) ⟨_, _, rfl⟩ q8
      induction hf using FlR.casesOn with
      | next => exact next q7
      | cont => exact next q7
      | ret hv => exact p (.ret _) (.ret _) T2 ρ2 H2 h7 tk7 hT7 (.ret hv) (S7.dropR fm (flds o5 _ od5).1) q7
  exact key vs [] T' ρ H' _ _ rfl hT ⟨_, _, _, _, X3⟩ (Heap.get?_push_size _ rfl) rfl rfl ⟨_, _, rfl⟩ q2

/-! `for` over a range -/
noncomputable def forR (i : Nat) (b : ST) : Nat → Int → ST
  | 0, _ => fun _ ρ H Q => Q .next ρ H
  | n + 1, k => fun C ρ H Q => b C (ρ.set i (.int k)) H fun fl ρ H => match fl with
    | .next => forR i b n (k + 1) C ρ H Q
    | .cont => forR i b n (k + 1) C ρ H Q
    | .ret v => Q (.ret v) ρ H
noncomputable def rgQ (u v : V) (R : Int → Int → Prop) : Prop := match u, v with
  | .int a, .int b => rangeOk a b = true ∧ R a b
  | _, _ => False
noncomputable def sForR (i : Nat) (pa pb : PT) (b : ST) : ST := fun C ρ H Q => pa C ρ H fun u H => pb C ρ H fun v H => rgQ u v fun x y => forR i b (y - x).toNat x C ρ H Q
/-- the two ends of a range -/
noncomputable def SRg (c : Cx) (names : Names) (e : Expr) (Pa Pb : PT) : Prop :=
  ∀ (f : Fx) d C, Fm c f → f.names = names → Room f.A d → SC c d C → ∀ T ρ H s (Q : Value → Shared → Prop) (Qm : Int → Int → Hp → Prop), St c f T ρ H s.heap → (Pa C ρ H fun u H => Pb C ρ H fun v H => rgQ u v fun x y => Qm x y H) →
    (∀ x y T' H' h' tk' r t u w, (∀ z ∈ T, z ∈ T') → St c f T' ρ H' h' → IsRange h' r x y 1 t u w → rangeOk x y = true → Qm x y H' → Q (.ref r) { s with heap := h', toks := tk' }) → wpAny c.M f.A (eval e f.env) Q noE s
theorem SRg_1 {names : Names} {y : Str} {np pos : Pos} {e : Expr} {j : Nat} {Pe : PT} (hl : lk y names 0 = some (j, .globalImplicit)) (hg : c.mg y = none) (hb : c.mb y = some (.type "range")) (he : SE c names e Pe) (hn : notStar e = true)
    (hd : (y == ("__debug__" : Str)) = false) : SRg c names (.Call (.Name y np) [e] [] pos) (pVal (.int 0)) Pe := by
  intro f d C fm hnm rm sc T ρ H s Q Qm S q p
  have S' := S
  obtain ⟨m, cs, news, own, X⟩ := S
  refine Call_ (nameB fm (hnm ▸ hl) hg hb hd X.F fm.base (cw_T (by simp only [List.all_cons, hn]; rfl) ?_))
  rw [starEach_cons hn]
  refine spliced_cons (he f d C fm hnm rm sc T ρ H s _ _ S' q fun v x T1 H1 h1 tk1 hT1 hv S1 q1 => args_nil ?_)
  induction hv using VR.casesOn <;> try exact q1.elim
  rename_i b t
  obtain ⟨ok, q2⟩ := q1
  refine call_range_1 ?_
  obtain ⟨m2, cs2, news2, own2, X2⟩ := S1
  exact p 0 b T1 H1 _ _ _ _ _ _ hT1 ⟨_, _, _, _, X2.pushed _ rfl⟩ (IsRange.new h1 0 b 1 tk1 t (tk1 + 1)) ok q2
theorem SRg_2 {names : Names} {y : Str} {np pos : Pos} {ea eb : Expr} {j : Nat} {Pa Pb : PT} (hl : lk y names 0 = some (j, .globalImplicit)) (hg : c.mg y = none) (hb : c.mb y = some (.type "range")) (ha : SE c names ea Pa) (hbb : SE c names eb Pb) (hn : notStar ea = true) (hn' : notStar eb = true)
    (hd : (y == ("__debug__" : Str)) = false) : SRg c names (.Call (.Name y np) [ea, eb] [] pos) Pa Pb := by
  intro f d C fm hnm rm sc T ρ H s Q Qm S q p
  have S' := S
  obtain ⟨m, cs, news, own, X⟩ := S
  refine Call_ (nameB fm (hnm ▸ hl) hg hb hd X.F fm.base (cw_T (by simp only [List.all_cons, hn, hn']; rfl) ?_))
  rw [starEach_cons hn]
  refine spliced_cons (ha f d C fm hnm rm sc T ρ H s _ _ S' q fun v x T1 H1 h1 tk1 hT1 hv S1 q1 => ?_)
  rw [starEach_cons hn']
  refine spliced_cons (hbb f d C fm hnm rm sc T1 ρ H1 _ _ _ S1 q1 fun v' x' T2 H2 h2 tk2 hT2 hv' S2 q2 => args_nil ?_)
  induction hv using VR.casesOn <;> try exact q2.elim
  induction hv' using VR.casesOn <;> try exact q2.elim
  rename_i a t b u
  obtain ⟨ok, q3⟩ := q2
  refine call_range_2 ?_
  obtain ⟨m2, cs2, news2, own2, X2⟩ := S2
  exact p a b T2 H2 _ _ _ _ _ _ (fun z hz => hT2 z (hT1 z hz)) ⟨_, _, _, _, X2.pushed _ rfl⟩ (IsRange.new h2 a b 1 t u tk2) ok q3
theorem SS_forR {names : Names} {x : Str} {i : Nat} {k : NameKind} {e : Expr} {b : List Stmt} {px pos : Pos} {Pa Pc : PT} {Pb : ST} (he : SRg c names e Pa Pc) (hb : SSs c names b Pb) (hl : lk x names 0 = some (i, k)) (hk : k = .local ∨ k = .cell) (hd : (x == ("__debug__" : Str)) = false)
    (hs : ∀ env x, foldedSetIterable e env x = pure x) : SS c names (.For (.Name x px) e b [] pos) (sForR i Pa Pc Pb) := by
  intro f d C fm hn rm sc T ρ H s Qm Q S q p
  subst hn
  refine wpAny_For (he f d C fm.toFm rfl rm sc T ρ H s _ (fun x y H => forR i Pb (y - x).toNat x C ρ H Qm) S q fun lo hi T' H' h' tk' r t u w hT S' hr ok q2 => ?_) (hs _)
  simp only [rangeOk, Bool.and_eq_true, decide_eq_true_eq] at ok
  refine wpAny_pyIter_range hr (small_one (by omega) (by omega) (by omega) (by omega)) ?_
  rw [rangeSize_nat]
  obtain ⟨m, cs, news, own, X⟩ := S'
  have X2 := X.pushed { cls := .type "range_iterator", data := .fields #[rawInt lo, rawInt (((hi - lo).toNat : Nat) : Int), rawInt 1] } rfl
  have X3 := X2.withR fm (.head _) (if_pos rfl)
  have hI : h'.objs.size ∉ f.R.map (·.1) := fun hq => by
    obtain ⟨r, hr, e⟩ := List.mem_map.mp hq
    exact X.fr (Nat.le_refl _) r (X.r.R r (List.mem_append_left _ hr)).1 e
  have key : ∀ (n : Nat) (kk : Int) (T1 : Led) (ρ1 : List V) (H1 : Hp) (s1 : Shared), (∀ z ∈ T, z ∈ T1) → St c (f.withR (h'.objs.size, { cls := .type "range_iterator", data := .fields #[rawInt kk, rawInt (n : Int), rawInt 1] })) T1 ρ1 H1 s1.heap →
      IsRangeIter s1.heap h'.objs.size kk n 1 → (∃ h tk, s1 = { s with heap := h, toks := tk }) → forR i Pb n kk C ρ1 H1 Qm →
      codeAny c.M f.A (.forLoop (.Name x px) (.ref h'.objs.size) b [] f.env) (fun r s' => match r with | .ok fl => Q fl s' | .error e => cameBackBy c.M f.A f.env noE e s') s1 := by
    intro n
    induction n with
    | zero =>
      rintro kk T1 ρ1 H1 s1 hT1 S1 hit ⟨hh, tk, rfl⟩ q1
      refine for_step (wpAny_pyNext_range_end fm.hand hit (Int.le_refl _) fun h5 he5 => ?_) fun _ => rfl
      obtain ⟨m1, cs1, news1, own1, X1⟩ := S1
      exact p .next .next T1 ρ1 H1 h5 tk hT1 .next (X1.drop fm hI (flds _ _ rfl).1 (flds _ _ rfl).2 fun b2 o2 hb2 e2 => he5 b2 o2 hb2 e2) q1
    | succ n ih =>
      rintro kk T1 ρ1 H1 s1 hT1 S1 hit ⟨hh, tk, rfl⟩ q1
      refine for_step (wpAny_pyNext_range_item hit (by omega) fun h5 hit5 hs5 => ?_) fun _ => rfl
      rw [show ((n + 1 : Nat) : Int) - 1 = (n : Nat) by omega] at hit5
      obtain ⟨m1, cs1, news1, own1, X1⟩ := S1
      have X5 := X1.iter fm hI (flds _ _ rfl).1 (flds _ _ rfl).2 hs5 hit5
      have fb5 := fm.withR (p := (h'.objs.size, { cls := .type "range_iterator", data := .fields #[rawInt (kk + 1), rawInt (n : Int), rawInt 1] })) (flds _ _ rfl).1
      refine wpAny_assign_Name (St.store (f := f.withR (h'.objs.size, { cls := .type "range_iterator", data := .fields #[rawInt (kk + 1), rawInt (n : Int), rawInt 1] })) (s := { s with heap := h5, toks := tk + 1 }) fb5 hl hk hd ⟨_, _, _, _, X5⟩ (.int kk _) fun h6 tk6 S6 => ?_)
      refine hb (f.withR (h'.objs.size, { cls := .type "range_iterator", data := .fields #[rawInt (kk + 1), rawInt (n : Int), rawInt 1] })) d C fb5 rfl rm sc T1 _ H1 _ _ _ S6 q1 fun mf fl T2 ρ2 H2 h7 tk7 hT2 hf S7 q7 => ?_
      have hT7 : ∀ z ∈ T, z ∈ T2 := fun z hz => hT2 z (hT1 z hz)
      have g7 : IsRangeIter h7 h'.objs.size (kk + 1) n 1 := by
        obtain ⟨_, _, _, _, X7⟩ := S7
        exact (X7.N _ (X7.r.R _ (.head _)).1).1
      induction hf using FlR.casesOn with
      | next => exact ih (kk + 1) T2 ρ2 H2 { s with heap := h7, toks := tk7 } hT7 S7 g7 ⟨_, _, rfl⟩ q7
      | cont => exact ih (kk + 1) T2 ρ2 H2 { s with heap := h7, toks := tk7 } hT7 S7 g7 ⟨_, _, rfl⟩ q7
      | ret hv => exact p (.ret _) (.ret _) T2 ρ2 H2 h7 tk7 hT7 (.ret hv) (S7.dropR fm (flds _ _ rfl).1) q7
  exact key _ lo T' ρ H' _ hT ⟨_, _, _, _, X3⟩ (Heap.get?_push_size _ rfl) ⟨_, _, rfl⟩ q2
end


/-! the first frame of a function -/
theorem lookup_mem {α β : Type} [BEq α] [LawfulBEq α] {k : α} {v : β} : ∀ {l : List (α × β)}, l.lookup k = some v → (k, v) ∈ l
  | [], h => by cases h
  | (a, b) :: r, h => by
    rw [List.lookup_cons] at h
    split at h
    · rename_i e; obtain rfl := Option.some.inj h; rw [beq_iff_eq.mp e]; exact .head _
    · exact .tail _ (lookup_mem h)
theorem lookup_nd {α β : Type} [BEq α] [LawfulBEq α] {k : α} {v : β} : ∀ {l : List (α × β)}, (l.map (·.1)).Nodup → (k, v) ∈ l → l.lookup k = some v
  | [], _, h => by cases h
  | (a, b) :: r, nd, h => by
    simp only [List.map_cons, List.nodup_cons] at nd
    rw [List.lookup_cons]
    rcases List.mem_cons.mp h with e | h
    · cases e; simp
    · have : (k == a) = false := by
        rw [beq_eq_false_iff_ne]
        intro e
        exact nd.1 (List.mem_map.mpr ⟨(k, v), h, e⟩)
      rw [this]
      exact lookup_nd nd.2 h
theorem bindL_other {kindOf : Str → Option NameKind} {x : Str} : ∀ {bs : List (Str × Value)} {m : Str → Option Value}, x ∉ bs.map (·.1) → bindL kindOf bs m x = m x
  | [], _, _ => rfl
  | (n, v) :: r, m, h => by
    simp only [List.map_cons, List.mem_cons, not_or] at h
    unfold bindL
    rw [bindL_other h.2]
    split
    · exact if_neg h.1
    · rfl
theorem bindL_get {kindOf : Str → Option NameKind} {x : Str} {v : Value} (hk : kindOf x = some .local) : ∀ {bs : List (Str × Value)} {m : Str → Option Value}, (bs.map (·.1)).Nodup → (x, v) ∈ bs → bindL kindOf bs m x = some v
  | [], _, _, h => by cases h
  | (n, u) :: r, m, nd, h => by
    simp only [List.map_cons, List.nodup_cons] at nd
    unfold bindL
    rcases List.mem_cons.mp h with e | h
    · cases e
      rw [bindL_other nd.1, if_pos hk]
      exact if_pos rfl
    · exact bindL_get hk nd.2 h
theorem bindC_other {kindOf : Str → Option NameKind} {x : Str} : ∀ {bs : List (Str × Value)} {m : Str → Option Value}, x ∉ bs.map (·.1) → bindC kindOf bs m x = m x
  | [], _, _ => rfl
  | (n, v) :: r, m, h => by
    simp only [List.map_cons, List.mem_cons, not_or] at h
    unfold bindC
    rw [bindC_other h.2]
    split
    · rfl
    · exact if_neg h.1
theorem bindC_get {kindOf : Str → Option NameKind} {x : Str} {v : Value} (hk : kindOf x ≠ some .local) : ∀ {bs : List (Str × Value)} {m : Str → Option Value}, (bs.map (·.1)).Nodup → (x, v) ∈ bs → bindC kindOf bs m x = some v
  | [], _, _, h => by cases h
  | (n, u) :: r, m, nd, h => by
    simp only [List.map_cons, List.nodup_cons] at nd
    unfold bindC
    rcases List.mem_cons.mp h with e | h
    · cases e
      rw [bindC_other nd.1, if_neg hk]
      exact if_pos rfl
    · exact bindC_get hk nd.2 h
theorem cellsAre_get {cm : Str → Option Value} {x : Str} {a : Addr} : ∀ {cs : List (Str × Addr)} {cells : Led}, CellsAre cm cs cells → cs.lookup x = some a → ∃ o, (a, o) ∈ cells ∧ o.data = .cell (cm x)
  | _, _, .nil, h => by cases h
  | (n, b) :: cs, _, .cons h r, e => by
    rw [List.lookup_cons] at e
    split at e
    · rename_i q; obtain rfl := Option.some.inj e; rw [beq_iff_eq.mp q]; exact ⟨_, .head _, h⟩
    · obtain ⟨o, h1, h2⟩ := cellsAre_get r e; exact ⟨o, .tail _ h1, h2⟩
theorem cellsAre_addr {cm : Str → Option Value} : ∀ {cs : List (Str × Addr)} {cells : Led}, CellsAre cm cs cells → cells.map (·.1) = cs.map (·.2)
  | _, _, .nil => rfl
  | _, _, .cons h r => by rw [List.map_cons, List.map_cons, cellsAre_addr r]
theorem cellsAre_cell {cm : Str → Option Value} : ∀ {cs : List (Str × Addr)} {cells : Led}, CellsAre cm cs cells → ∀ p ∈ cells, ∃ v, p.2.data = .cell v
  | _, _, .nil, _, h => by cases h
  | _, _, .cons h r, p, hp => by
    rcases List.mem_cons.mp hp with rfl | hp
    · exact ⟨_, h⟩
    · exact cellsAre_cell r p hp
theorem cellsFrom_addr : ∀ (names : Names) (n : Nat) (acc : List (Str × Addr)) (lo : Nat), lo ≤ n → (∀ p ∈ acc, lo ≤ p.2 ∧ p.2 < n) → (acc.map (·.2)).Nodup →
    (∀ p ∈ cellsFrom n names acc, lo ≤ p.2) ∧ ((cellsFrom n names acc).map (·.2)).Nodup
  | [], n, acc, lo, _, h, nd => ⟨fun p hp => (h p hp).1, nd⟩
  | (x, k) :: r, n, acc, lo, hlo, h, nd => by
    unfold cellsFrom
    split
    · refine cellsFrom_addr r (n + 1) _ lo (by omega) (fun p hp => ?_) ?_
      · rcases List.mem_cons.mp hp with rfl | hp
        · exact ⟨hlo, Nat.lt_succ_self _⟩
        · have := h p hp; exact ⟨this.1, Nat.lt_succ_of_lt this.2⟩
      · simp only [List.map_cons, List.nodup_cons]
        refine ⟨fun hq => ?_, nd⟩
        obtain ⟨p, hp, e⟩ := List.mem_map.mp hq
        have := (h p hp).2
        rw [e] at this
        exact Nat.lt_irrefl _ this
    · exact cellsFrom_addr r n acc lo hlo h nd
theorem nd_snd {α β : Type} {l : List (α × β)} (h : (l.map (·.2)).Nodup) {a a' : α} {b : β} (h1 : (a, b) ∈ l) (h2 : (a', b) ∈ l) : a = a' := by
  induction l with
  | nil => cases h1
  | cons p r ih =>
    simp only [List.map_cons, List.nodup_cons] at h
    rcases List.mem_cons.mp h1 with e1 | h1 <;> rcases List.mem_cons.mp h2 with e2 | h2
    · rw [← e1] at e2; cases e2; rfl
    · exact absurd (List.mem_map.mpr ⟨(a', b), h2, by rw [← e1]⟩) h.1
    · exact absurd (List.mem_map.mpr ⟨(a, b), h1, by rw [← e2]⟩) h.1
    · exact ih h.2 h1 h2
theorem HRel.pushes {P : DK} {T0 news : Led} {H : Hp} {R T : Led} {own : Own} (r : HRel P T0 news H R T own) : ∀ (cells : Led), (cells.map (·.1)).Nodup → (∀ p ∈ cells, ∀ q ∈ news, q.1 ≠ p.1) → ∃ own', HRel P T0 (cells ++ news) H (R ++ cells) T own'
  | [], _, _ => ⟨own, by rw [List.nil_append, List.append_nil]; exact r⟩
  | (a, o) :: cells, nd, dj => by
    simp only [List.map_cons, List.nodup_cons] at nd
    obtain ⟨own1, r1⟩ := HRel.pushes r cells nd.2 fun p hp => dj p (.tail _ hp)
    have r2 := r1.push (a := a) o fun p hp => by
      rcases List.mem_append.mp hp with hp | hp
      · exact fun e => nd.1 (List.mem_map.mpr ⟨p, hp, e⟩)
      · exact dj _ (.head _) p hp
    refine ⟨_, r2.nd, r2.obj, fun p hp => ?_, r2.T⟩
    rcases List.mem_append.mp hp with hp | hp
    · exact r2.R p (List.mem_append_left _ hp)
    · rcases List.mem_cons.mp hp with rfl | hp
      · exact ⟨.head _, if_pos rfl⟩
      · exact r2.R p (List.mem_append_right _ hp)

structure Fn where
  name : Str
  qual : Str
  params : Arguments
  body : List Stmt
  scope : Scope
  dV : Value
  kV : Value
  doc : Value
  pm : Value
  an : Option Addr
  cdv : Value
  ct : Value
noncomputable abbrev Fn.fd (F : Fn) : FuncData := fnX F.name F.qual F.params F.body F.scope [] F.dV F.kV F.doc F.pm F.an F.cdv F.ct
noncomputable def Fn.lc (F : Fn) (n : Nat) : Bool := (F.scope.names.take n).all fun p => p.2 == .local || p.2 == .cell
structure FnOk (c : Cx) (a : Nat) (F : Fn) (n : Nat) (Pb : ST) : Prop where
  obj : ∃ fo, c.K.lookup a = some fo ∧ fo.data = .func F.fd
  code : codeIn c.K F.cdv F.qual = true
  bind : ∀ xs : List Value, xs.length = n → bindArgs F.fd ⟨xs, []⟩ = pure (((F.scope.names.take n).map (·.1)).zip xs)
  lc : F.lc n = true
  nd : ((F.scope.names.map (·.1)).Nodup)
  len : n ≤ F.scope.names.length
  cnd : ((cellsFrom 0 F.scope.names []).map (·.1)).Nodup
  db : F.scope.names.all (fun p => !(p.1 == ("__debug__" : Str))) = true
  co : F.scope.isCoroutine = false
  gen : F.scope.isGenerator = false
  kind : F.scope.kind = .function
  sound : SSs c F.scope.names F.body Pb

noncomputable def retV : MF → V
  | .ret v => v
  | _ => .none
/-- what a function's call does -/
noncomputable def fnC (n k : Nat) (Pb : ST) (C : Cl) : List V → Hp → QV → Prop := fun args H Q => args.length = n ∧ Pb C (args ++ List.replicate k .un) H fun fl _ H => Q (retV fl) H

theorem zip_get {α β : Type} : ∀ {as : List α} {bs : List β} {i : Nat} {a : α} {b : β}, as[i]? = some a → bs[i]? = some b → (a, b) ∈ as.zip bs
  | [], _, _, _, _, h, _ => by simp at h
  | _ :: _, [], _, _, _, _, h => by simp at h
  | x :: as, y :: bs, 0, a, b, h1, h2 => by simp at h1 h2; subst h1 h2; exact .head _
  | x :: as, y :: bs, i + 1, a, b, h1, h2 => by simp at h1 h2; exact .tail _ (zip_get h1 h2)
theorem lk_get {x : Str} : ∀ {ns : Names} {n i : Nat} {k : NameKind}, lk x ns n = some (i, k) → n ≤ i ∧ ns[i - n]? = some (x, k)
  | [], _, _, _, h => by simp [lk] at h
  | p :: r, n, i, k, h => by
    simp only [lk] at h
    split at h
    · rename_i e; cases h; subst e; simp
    · obtain ⟨h1, h2⟩ := lk_get h
      refine ⟨by omega, ?_⟩
      rw [show i - n = (i - (n + 1)) + 1 by omega, List.getElem?_cons_succ]
      exact h2
theorem cellsFrom_has {x : Str} (names : Names) (n : Nat) (h : names.lookup x = some .cell) : ((cellsFrom n names []).lookup x).isSome = true := cellsFrom_some names n [] (.inl h)

section
variable {c : Cx} {f : Fx} {T : Led} {ρ : List V} {H : Hp} {s : Shared}

/-- a function's call -/
theorem fn_call {a n : Nat} {F : Fn} {Pb : ST} (ok : FnOk c a F n Pb) {d : Nat} {C : Cl} {A : Around} {k : Nat} (hkk : F.scope.names.length = n + k) (fm : Fm c f) (hA : A.frames = f.A.frames) (hh : A.handled = none) (rm : Room (A.deeper (envOfC F.qual F.scope 0 a F.cdv)) d) (hr : A.depth < recursionLimit) (sc : SC c d C)
    {args : List V} {vals : List Value} {Qm : QV} {R : Result → Shared → Prop} (S : St c f T ρ H s.heap) (hv : VRs T args vals) (q : fnC n k Pb C args H Qm)
    (p : ∀ mv v T' H' h' tk', (∀ z ∈ T, z ∈ T') → VR T' mv v → St c f T' ρ H' h' → Qm mv H' → R (.ok (.ret v)) { s with heap := h', toks := tk' }) :
    codeAny c.M A (.call (.ref a) ⟨vals, []⟩) R s := by
  obtain ⟨hn, q⟩ := q
  obtain ⟨fo, ho, hd⟩ := ok.obj
  have hlen := hv.length
  have hKin := S.inK fm
  obtain ⟨m, cs, news, own, X⟩ := S
  obtain ⟨A₀, b₀, outer, fenv, B, hAf, hfr, hkf⟩ := fm.bel
  let binds := ((F.scope.names.take n).map (·.1)).zip vals
  have hbl : binds.map (·.1) = (F.scope.names.take n).map (·.1) := by
    show ((((F.scope.names.take n).map (·.1)).zip vals)).map Prod.fst = _
    rw [List.map_fst_zip]
    simp; have := ok.len; omega
  have ndT : ((F.scope.names.take n).map (·.1)).Nodup := (List.take_sublist n _).map _ |>.nodup ok.nd
  have kindB : ∀ x ∈ binds, F.scope.names.lookup x.1 = some .local ∨ F.scope.names.lookup x.1 = some .cell := fun x hx => by
    have hx1 : x.1 ∈ (F.scope.names.take n).map (·.1) := hbl ▸ List.mem_map_of_mem hx
    obtain ⟨p, hp, e⟩ := List.mem_map.mp hx1
    have h1 := List.all_eq_true.mp ok.lc p hp
    have h2 : F.scope.names.lookup x.1 = some p.2 := by
      rw [← e]
      exact lookup_nd ok.nd (List.mem_of_mem_take hp)
    rw [h2]
    rcases Bool.or_eq_true_iff.mp h1 with h1 | h1 <;> rw [beq_iff_eq.mp h1]
    · exact .inl rfl
    · exact .inr rfl
  refine callX_cells (A₀ := A₀) (base := b₀) (outer := outer) (env := fenv) (L := f.L) (m := m) (news := news) (name := F.name) (qual := F.qual) (params := F.params) (body := F.body) (scope := F.scope) (dV := F.dV) (kV := F.kV) (doc := F.doc) (pm := F.pm) (an := F.an) (cdv := F.cdv) (ct := F.ct) (binds := binds)
    B X.F X.N fm.base.lim (hA ▸ hAf) hfr hkf (hKin _ _ ho) hd (codeRec_of hKin ok.code) hr (BindsTo.of_eq (ok.bind vals (by omega))) (fun n' x hx => ?_) ok.cnd ?_ ok.co ok.gen ok.kind
  · rcases kindB x hx with h | h
    · exact .inl h
    · exact .inr ⟨h, cellsFrom_has _ _ h⟩
  intro g L' h₁ tk cells FG FL NN CA BG st hlow
  have ca := cellsFrom_addr F.scope.names (L' + 1) [] (L' + 1) (Nat.le_refl _) (fun _ h => by cases h) .nil
  have hca := cellsAre_addr CA
  have cellLow : ∀ p ∈ cells, L' < p.1 := fun p hp => by
    have : p.1 ∈ (cellsFrom (L' + 1) F.scope.names []).map (·.2) := hca ▸ List.mem_map_of_mem hp
    obtain ⟨r, hr, e⟩ := List.mem_map.mp this
    have := ca.1 r hr
    rw [e] at this
    exact this
  obtain ⟨own', r'⟩ := X.r.pushes cells (hca ▸ ca.2) fun p hp r hr e => by
    have h1 := cellLow p hp
    have h2 := hlow r hr
    rw [e] at h2
    exact Nat.lt_irrefl _ (Nat.lt_trans h1 h2)
  let env' := envOfC F.qual F.scope L' a F.cdv
  let f' : Fx := { A := A.deeper env', g := g, env := env', L := L', R := f.R ++ cs, names := F.scope.names, mm := fun _ => True }
  have hnm : ∀ x i k, lk x F.scope.names 0 = some (i, k) → env'.kindOf x = some k := fun x i k h => lk_lookup h
  have fb' : FB c f' :=
    { base := ⟨fm.base.gd, fm.base.X.keeps st, fm.base.gl.keeps st, fm.base.bl.keeps st, fm.base.lim.keeps st, fun p hp => st _ _ (fm.base.t0 p hp)⟩
      hand := hh, kind := ok.kind, glob := rfl, bi := rfl
      bel := ⟨A, b₀, fenv :: outer, env', BG, Around.frames_deeper (hA ▸ hAf), rfl, ok.kind⟩
      nms := hnm
      lcs := .inl rfl
      loc := rfl
      mmT := fun _ => trivial
      R0 := fun p hp _ => hlow p (X.r.R p hp).1 }
  have S' : St c f' T (args ++ List.replicate k .un) H h₁ := by
    refine ⟨_, cells, cells ++ news, own', FL, NN, r', fun x i kd mv h1 h2 h3 h4 => ?_, ⟨fun p hp => ⟨cellsAre_cell CA p hp, cellLow p hp⟩, fun _ => ⟨fun x hx => ?_, fun x y b h1 h2 => ?_⟩, trivial⟩, X.z⟩
    · obtain ⟨_, h5⟩ := lk_get h1
      rw [Nat.sub_zero] at h5
      have hi : i < args.length := by
        rcases Nat.lt_or_ge i args.length with h | h
        · exact h
        · rw [List.getElem?_append_right h, List.getElem?_replicate] at h3
          split at h3
          · obtain rfl := Option.some.inj h3; exact absurd rfl h4
          · cases h3
      rw [List.getElem?_append_left hi] at h3
      obtain ⟨v, hv1, hv2⟩ := hv.get h3
      have hmem : (x, v) ∈ binds := by
        refine zip_get (i := i) ?_ hv1
        rw [List.getElem?_map, List.getElem?_take_of_lt (by omega), h5]; rfl
      have hdb := List.all_eq_true.mp ok.db (x, kd) (List.mem_of_getElem? h5)
      refine ⟨by simpa using hdb, v, hv2, ?_⟩
      have hko := hnm x i kd h1
      have ndB : (binds.map (·.1)).Nodup := hbl ▸ ndT
      rcases kindB (x, v) hmem with h6 | h6
      · exact .inl ⟨h6, rfl, bindL_get h6 ndB hmem⟩
      · obtain ⟨b, hb⟩ := Option.isSome_iff_exists.mp (cellsFrom_has F.scope.names (L' + 1) h6)
        obtain ⟨o, ho1, ho2⟩ := cellsAre_get CA hb
        refine .inr (.inr ⟨.inl h6, b, o, hb, List.mem_append_right _ ho1, ho2.trans ?_⟩)
        rw [bindC_get (kindOf := env'.kindOf) (by show F.scope.names.lookup x ≠ _; rw [h6]; simp) ndB hmem]
    · obtain ⟨b, hb⟩ := Option.isSome_iff_exists.mp (cellsFrom_has F.scope.names (L' + 1) hx)
      obtain ⟨o, ho1, ho2⟩ := cellsAre_get CA hb
      exact ⟨b, o, _, hb, ho1, ho2⟩
    · exact nd_snd ca.2 (lookup_mem h1) (lookup_mem h2)
  have body := ok.sound f' d C fb' rfl rm sc T (args ++ List.replicate k .un) H { s with heap := h₁, toks := tk } (fun fl _ H => Qm (retV fl) H)
    (fun fl s' => LeaveK f.g f.L m g R (match fl with | .ret v => v | _ => .none) s') S' q ?_
  · exact wpAny_mono body (fun _ _ z => z) fun _ _ z => z.elim
  · intro mf fl T' ρ' H' h' tk' hT hf S2 q2
    obtain ⟨m2, cs2, news2, own2, X2⟩ := S2
    refine ⟨L', m2, news2, X2.F, X2.N, fun F3 N3 => ?_⟩
    have S3 : St c f T' ρ H' h' := ⟨m, cs, news2, own2, F3, N3, X2.r.subR fun p hp => List.mem_append_left _ hp, X.l.mono hT, X.k, fun p hp => hT p (X.z p hp)⟩
    induction hf using FlR.casesOn with
    | next => exact p .none .none T' H' h' tk' hT .none S3 q2
    | cont => exact p .none .none T' H' h' tk' hT .none S3 q2
    | ret hv => exact p _ _ T' H' h' tk' hT hv S3 q2
end


structure FE where
  n : Nat
  k : Nat
  P : ST
noncomputable def fnAt (FT : Nat → Option FE) (C : Cl) (a : Nat) : List V → Hp → QV → Prop := fun args H Q => match FT a with
  | some e => fnC e.n e.k e.P C args H Q
  | none => False
/-- what the text's functions and classes do, down to a depth -/
noncomputable def callN (FT : Nat → Option FE) : Nat → Cl
  | 0 => fun _ _ _ _ => False
  | d + 1 => fun a args H Q => match iniOf a with
    | some fI => ∀ x, H x = none → fnAt FT (callN FT d) fI (.ref x :: args) (H.set x (.ins a [])) fun r H' => r = .none ∧ Q (.ref x) H'
    | none => fnAt FT (callN FT d) a args H Q

theorem HRel.pushI {P : DK} {T0 news : Led} {H : Hp} {R T : Led} {own : Own} (r : HRel P T0 news H R T own) {x dx C : Addr} (hd : ∀ p ∈ news, p.1 ≠ dx) (hx : ∀ p ∈ news, p.1 ≠ x) (hne : x ≠ dx) :
    ∃ own', HRel P T0 ((x, instObj C dx) :: (dx, dictOf [] 0) :: news) (H.set x (.ins C [])) R T own' := by
  have r1 := r.push (a := dx) (dictOf [] 0) hd
  have fx : ∀ p ∈ (dx, dictOf [] 0) :: news, p.1 ≠ x := fun p hp => by
    rcases List.mem_cons.mp hp with rfl | hp
    · exact Ne.symm hne
    · exact hx p hp
  have r2 := r1.push (a := x) (instObj C dx) fx
  have on : ∀ p ∈ news, p.1 ≠ x ∧ p.1 ≠ dx := fun p hp => ⟨hx p hp, hd p hp⟩
  refine ⟨fun b => if b = x ∨ b = dx then some x else own b, r2.nd, fun b y e => ?_, fun p hp => ?_, fun p hp => ?_⟩
  · by_cases hb : b = x
    · subst hb
      rw [Hp.set_self] at e
      obtain rfl := Option.some.inj e
      exact ⟨if_pos (.inl rfl), dx, [], 0, .head _, .tail _ (.head _), if_pos (.inr rfl), .nil⟩
    · rw [Hp.set_ne _ _ hb] at e
      obtain ⟨h1, h2⟩ := r.obj b y e
      obtain ⟨p, hp, rfl⟩ := List.mem_map.mp h2.addr
      obtain ⟨n1, n2⟩ := on p hp
      refine ⟨(if_neg (fun q => q.elim n1 n2)).trans h1, ?_⟩
      induction y using MO.casesOn with
      | lst vs => obtain ⟨ws, n, h3, h4⟩ := h2; exact ⟨ws, n, .tail _ (.tail _ h3), h4⟩
      | ins c fs => obtain ⟨d2, es, n, h3, h4, h5, h6⟩ := h2; exact ⟨d2, es, n, .tail _ (.tail _ h3), .tail _ (.tail _ h4), (if_neg fun q => q.elim (on _ h4).1 (on _ h4).2).trans h5, h6⟩
      | dic n => obtain ⟨o, h3, h4⟩ := h2; exact ⟨o, .tail _ (.tail _ h3), h4⟩
  · obtain ⟨h1, h2⟩ := r.R p hp
    exact ⟨.tail _ (.tail _ h1), (if_neg fun q => q.elim (on p h1).1 (on p h1).2).trans h2⟩
  · rcases r.T p hp with ⟨h1, h2, h3⟩ | h1
    · exact .inl ⟨.tail _ (.tail _ h1), (if_neg fun q => q.elim (on p h1).1 (on p h1).2).trans h2, h3⟩
    · exact .inr h1

theorem callN_sound {c : Cx} {FT : Nat → Option FE} (hF : ∀ a e, FT a = some e → ∃ F, FnOk c a F e.n e.P ∧ F.scope.names.length = e.n + e.k) : ∀ d, SC c d (callN FT d)
  | 0 => fun f fm rm a args vals T ρ H s Qm Q S hv q p => q.elim
  | d + 1 => by
    have ih := callN_sound hF d
    intro f fm rm a args vals T ρ H s Qm Q S hv q p
    unfold callN at q
    obtain ⟨r1, r2⟩ := rm
    split at q
    · rename_i fI hi
      have g := fm.base.gd.cls a fI hi
      have S' := S
      obtain ⟨m, cs, news, own, X⟩ := S
      refine call_cls X.F fm.base.X X.N g.2.2.2.2.1 g.2.2.2.2.2.1 g.2.2.2.2.2.2.1 fun x dx h' F' N' hlt hlt2 => ?_
      have fr1 : ∀ p ∈ news, p.1 ≠ dx := fun p hp e => by have := hlt p hp; rw [e] at this; exact Nat.lt_irrefl _ this
      have fr2 : ∀ p ∈ news, p.1 ≠ x := fun p hp e => by have := Nat.lt_trans (hlt p hp) hlt2; rw [e] at this; exact Nat.lt_irrefl _ this
      obtain ⟨own', r'⟩ := X.r.pushI (C := a) fr1 fr2 (Nat.ne_of_gt hlt2)
      have q2 := q x (X.r.fresh fr2)
      unfold fnAt at q2
      split at q2
      case h_2 => exact q2.elim
      rename_i e he
      obtain ⟨F, ok, hk⟩ := hF fI e he
      refine fn_call (A := f.A.under (.builtin "type.__call__" ⟨.ref a :: vals, []⟩)) (s := { s with heap := h' }) (T := T) (ρ := ρ) ok hk fm (by rfl) fm.hand ?_ ?_ ih (args := .ref x :: args) (vals := .ref x :: vals) ⟨m, cs, _, own', F', N', r', X.l, X.k, X.z⟩ (.cons (.ref x) hv) q2 ?_
      · refine ⟨?_, ?_⟩
        · show f.A.depth + 1 + 1 + 3 * d + 3 < recursionLimit; omega
        · show f.A.units + 1 + 3 + 20 * d + 20 < cLine; omega
      · show f.A.depth + 1 < recursionLimit; omega
      · rintro mv v T' H' h2 tk2 hT hv2 S2 ⟨rfl, q3⟩
        cases hv2
        exact ⟨rfl, p (.ref x) (.ref x) T' H' h2 tk2 hT (.ref x) S2 q3⟩
    · unfold fnAt at q
      split at q
      case h_2 => exact q.elim
      rename_i e he
      obtain ⟨F, ok, hk⟩ := hF a e he
      refine wpAny_call (fn_call ok hk fm rfl fm.hand ?_ ?_ ih S hv q fun mv v T' H' h' tk' hT hv' S' q' => p mv v T' H' h' tk' hT hv' S' q')
      · refine ⟨?_, ?_⟩
        · show f.A.depth + 1 + 3 * d + 3 < recursionLimit; omega
        · show f.A.units + 3 + 20 * d + 20 < cLine; omega
      · omega


section
variable {prog : Program} {w : World} {A : Around} {R : Result → Shared → Prop} {s : Shared}
theorem comp_step {elt target iter : Expr} {ifs : List Expr} {scope : Scope} {pos : Pos} {it acc : Value} {env : Env}
    (h : wpAny (model prog w) A (pyNext it) (fun r s₁ => match r with
      | none => R (.ok .next) s₁
      | some v => wpAny (model prog w) A (letOwnedTupleGo target it v) (fun _ s₁' => wpAny (model prog w) A (assign target env v) (fun _ s₂ =>
          wpAny (model prog w) A (forIn ifs true fun c r => if r = true then do let ok ← isTrue c env (eval c env); pure (ForInStep.yield ok) else pure (ForInStep.yield r)) (fun ok s₃ => match ok with
            | true => wpAny (model prog w) A (eval elt env) (fun x s₄ =>
              wpAny (model prog w) A (call (.builtin "list.append") [acc, x]) (fun _ s₅ => codeAny (model prog w) A (.compLoop (.ListComp elt [⟨target, iter, ifs, 0⟩] scope pos) 0 it acc env) R s₅) noE s₄) noE s₃
            | false => codeAny (model prog w) A (.compLoop (.ListComp elt [⟨target, iter, ifs, 0⟩] scope pos) 0 it acc env) R s₃) noE s₂) noE s₁') noE s₁) noE s) :
    codeAny (model prog w) A (.compLoop (.ListComp elt [⟨target, iter, ifs, 0⟩] scope pos) 0 it acc env) R s := by
  refine codeAny_of_tree ?_
  show wpAny _ A ((compTurn (.ListComp elt [⟨target, iter, ifs, 0⟩] scope pos) 0 it acc env).onRaise (fun x => do noteFrame x env; theTreesLotGoes x)) _ _ s
  refine wpAny_noted ?_
  rw [compTurn_list]
  refine wpAny_bind (wpAny_standAt (wpAny_bind (wpAny_mono h (fun r s₁ h₁ => ?_) fun _ _ h' => h'.elim)))
  induction r using Option.casesOn with
  | none => exact wpAny_pure h₁
  | some v =>
    refine wpAny_bind (wpAny_mono h₁ (fun _ s₁' h₁' => ?_) fun _ _ h' => h'.elim)
    refine wpAny_bind (wpAny_mono h₁' (fun _ s₂ h₂ => wpAny_bind (wpAny_mono h₂ (fun ok s₃ h₃ => ?_) fun _ _ h' => h'.elim)) fun _ _ h' => h'.elim)
    induction ok using Bool.casesOn with
    | false => exact wpAny_pure ⟨rfl, h₃⟩
    | true =>
      exact wpAny_bind (wpAny_bind (wpAny_mono h₃ (fun x s₄ h₄ => wpAny_bind (wpAny_mono h₄ (fun _ s₅ h₅ => wpAny_pure (wpAny_pure ⟨rfl, h₅⟩)) fun _ _ h' => h'.elim)) fun _ _ h' => h'.elim))
theorem newCompEnv {M : Model} {E : Value → Shared → Prop} {scope : Scope} {globals : Addr} {cl : List (Str × Addr)} {qual : Str} {outer : Env} {Q : Env → Shared → Prop}
    (hQ : Q { scope, locals := s.heap.objs.size, globals, cells := cellsFrom (s.heap.objs.size + 1) scope.names cl, qual, func := none, code := outer.code, frame := outer.frame, builtins := outer.builtins }
      { s with heap := pushCells (s.heap.push { cls := .type "dict", data := .dict #[] }) scope.names }) :
    wpAny M A (newFunctionEnv scope globals cl [] qual none .none (some outer)) Q E s := by
  simp only [newFunctionEnv, Option.isSome_some, if_true]
  refine wpAny_bind (wpAny_alloc ?_)
  refine wpAny_bind (wpAny_layCells _ (fun name kind cells => by cases hkc : kind == NameKind.cell <;> simp [hkc]) _ _ _ _ ?_)
  rw [show ({ s with heap := s.heap.push { cls := .type "dict", data := .dict #[] } } : Shared).heap.objs.size = s.heap.objs.size + 1 from Heap.size_push ..]
  exact wpAny_bind (wpAny_pure (wpAny_pure hQ))
end

/-- a bare state: a frame of no names -/
noncomputable def Bs (c : Cx) (g : Heap) (L : Addr) (m : Str → Option Value) (T : Led) (H : Hp) (h : Heap) (R : Led) : Prop :=
  ∃ news own, Fr g L h m ∧ News g L h news ∧ HRel c.dk c.T0 news H R T own ∧ ∀ p ∈ c.T0, p ∈ T
section
variable {c : Cx} {g h h' : Heap} {L : Addr} {m : Str → Option Value} {T : Led} {H : Hp} {R R2 : Led}
theorem Bs.get (X : Bs c g L m T H h R) {p : Addr × Obj} (hp : p ∈ R) : h.get? p.1 = some p.2 ∧ p.1 ≠ L ∧ g.get? p.1 = none := by
  obtain ⟨news, own, F, N, r, z⟩ := X
  exact N p (r.R p hp).1
theorem Bs.sub (X : Bs c g L m T H h R) (h2 : ∀ p ∈ R2, p ∈ R) : Bs c g L m T H h R2 := by
  obtain ⟨news, own, F, N, r, z⟩ := X
  exact ⟨news, own, F, N, r.subR h2, z⟩
theorem Bs.kept (X : Bs c g L m T H h R) (hk : ∀ b o, h.get? b = some o → h'.get? b = some o) : Bs c g L m T H h' R := by
  obtain ⟨news, own, F, N, r, z⟩ := X
  exact ⟨news, own, F.keeps hk, N.grown hk, r, z⟩
theorem Bs.upd (X : Bs c g L m T H h R) {b : Addr} {o o' : Obj} (hb : (b, o) ∈ R) (ht : ∀ ws n, o ≠ tupObj ws n) (hs : Heap.SameBut b h h') (ho' : h'.get? b = some o') (h2 : ∀ p ∈ R2, p = (b, o') ∨ (p ∈ R ∧ p.1 ≠ b)) : Bs c g L m T H h' R2 := by
  have hg := X.get hb
  obtain ⟨news, own, F, N, r, z⟩ := X
  refine ⟨rep b o' news, own, ⟨F.ns.sameBut hs (Ne.symm hg.2.1), fun b2 ob e => (hs.2 b2 (fun q => by rw [q, hg.2.2] at e; cases e)).trans (F.keep b2 ob e), F.above⟩, fun p hp => ?_, (r.updC hb ht).subR fun p hp => ?_, z⟩
  · obtain ⟨q, hq, rfl⟩ := List.mem_map.mp hp
    by_cases e : q.1 = b
    · rw [if_pos e]; exact ⟨ho', hg.2⟩
    · rw [if_neg e]; exact ⟨(hs.2 _ e).trans (N q hq).1, (N q hq).2⟩
  · rcases h2 p hp with rfl | ⟨h3, h4⟩
    · exact rep_self hb
    · exact rep_other (b := p.1) (x := p.2) h3 h4
theorem Bs.drop (X : Bs c g L m T H h R) {b : Addr} {o : Obj} (hb : (b, o) ∈ R) (ht : ∀ ws n, o ≠ tupObj ws n) (he : ∀ a x, a ≠ b → h.get? a = some x → h'.get? a = some x) (h2 : ∀ p ∈ R2, p ∈ R ∧ p.1 ≠ b) : Bs c g L m T H h' R2 := by
  have hg := X.get hb
  obtain ⟨news, own, F, N, r, z⟩ := X
  have hIn := r.R _ hb
  let news5 := news.filter fun r => r.1 ≠ b
  have inF : ∀ r : Addr × Obj, r ∈ news → r.1 ≠ b → r ∈ news5 := fun r hr hne => List.mem_filter.mpr ⟨hr, by simpa using hne⟩
  refine ⟨news5, own, ⟨F.ns.at' fun o e => he _ o (Ne.symm hg.2.1) e, fun b2 o e => he b2 o (fun q => by rw [q, hg.2.2] at e; cases e) (F.keep b2 o e), F.above⟩,
    fun r hr => ?_, ⟨?_, fun b y e => ?_, fun p hp => ?_, fun p hr => ?_⟩, z⟩
  · obtain ⟨hr1, hr2⟩ := List.mem_filter.mp hr
    exact ⟨he _ _ (by simpa using hr2) (N r hr1).1, (N r hr1).2⟩
  · exact (List.filter_sublist.map _).nodup r.nd
  · obtain ⟨e1, e2⟩ := r.obj b y e
    refine ⟨e1, e2.mono (fun _ z => z) (fun d z hz hd => inF _ hz fun e3 => ?_) fun _ z => z⟩
    simp only at e3
    subst e3
    rcases hd with hd | hd
    · rw [hIn.2] at hd; cases hd
    · rw [← hd, hIn.2] at e1; cases e1
  · obtain ⟨e1, e2⟩ := r.R _ (h2 p hp).1
    exact ⟨inF _ e1 (h2 p hp).2, e2⟩
  · rcases r.T p hr with ⟨e1, e2, ws, n, e3⟩ | e1
    · refine .inl ⟨inF p e1 fun e4 => ?_, e2, ws, n, e3⟩
      have : p.2 = o := nd_inj r.nd (show (b, p.2) ∈ news from e4 ▸ e1) hIn.1
      exact ht ws n (this ▸ e3)
    · exact .inr e1
theorem Bs.append {A : Around} {s : Shared} {D : Addr} {xs : List Value} {n : Nat} {x : Value} {Q : Value → Shared → Prop} (X : Bs c g L m T H s.heap R) (hD : (D, listOf xs.toArray n) ∈ R) (hsz : xs.length ≤ 1000000)
    (h2 : ∀ p ∈ R2, p = (D, listOf (xs ++ [x]).toArray (n + 1)) ∨ (p ∈ R ∧ p.1 ≠ D)) (q : ∀ h', Bs c g L m T H h' R2 → Q .none { s with heap := h' }) : wpAny c.M A (call (.builtin "list.append") [.ref D, x]) Q noE s := by
  obtain ⟨news, own, F, N, r, z⟩ := X
  have hsl := sizeLine_ge
  refine append_K F N (upd_rep r.nd (r.R _ hD).1) (fun h' F' N' => q h' ⟨_, own, F', N', (r.updC hD fun ws n e => absurd (congrArg Obj.cls e) (by simp)).subR fun p hp => ?_, z⟩) (hsz := by simp; omega)
  rcases h2 p hp with rfl | ⟨h3, h4⟩
  · have := rep_self (o := listOf (xs.toArray.push x) (n + 1)) hD
    simpa using this
  · exact rep_other (b := p.1) (x := p.2) h3 h4
theorem Bs.adopt {D : Addr} {vs : List V} {xs : List Value} {n : Nat} (X : Bs c g L m T H h R) (hD : (D, listOf xs.toArray n) ∈ R) (hv : VRs T vs xs) (h2 : ∀ p ∈ R2, p ∈ R ∧ p.1 ≠ D) : H D = none ∧ Bs c g L m T (H.set D (.lst vs)) h R2 := by
  obtain ⟨news, own, F, N, r, z⟩ := X
  obtain ⟨hD1, hD2⟩ := r.R _ hD
  have hH : H D = none := by
    cases e : H D with
    | none => rfl
    | some y => have := (r.obj D y e).1; rw [hD2] at this; cases this
  refine ⟨hH, news, fun b => if b = D then some D else own b, F, N, ⟨r.nd, fun b y e => ?_, fun p hp => ?_, fun p hp => ?_⟩, z⟩
  · by_cases hb : b = D
    · subst hb
      rw [Hp.set_self] at e
      obtain rfl := Option.some.inj e
      exact ⟨if_pos rfl, xs, n, hD1, hv⟩
    · rw [Hp.set_ne _ _ hb] at e
      obtain ⟨e1, e2⟩ := r.obj b y e
      refine ⟨(if_neg hb).trans e1, e2.mono (fun _ z => z) (fun _ _ z _ => z) fun d hd => ?_⟩
      by_cases hdD : d = D
      · rw [hdD, hD2] at hd; cases hd
      · exact (if_neg hdD).trans hd
  · obtain ⟨e1, e2⟩ := h2 p hp
    exact ⟨(r.R p e1).1, (if_neg e2).trans (r.R p e1).2⟩
  · rcases r.T p hp with ⟨e1, e2, ws, k, e3⟩ | e1
    · refine .inl ⟨e1, (if_neg fun e4 => ?_).trans e2, ws, k, e3⟩
      have : p.2 = listOf xs.toArray n := nd_inj r.nd (show (D, p.2) ∈ news from e4 ▸ e1) hD1
      rw [e3] at this; exact absurd (congrArg Obj.cls this) (by simp)
    · exact .inr e1
/-- something new -/
theorem Bs.push (X : Bs c g L m T H h R) (o : Obj) (hf : o.isFreed = false) : Bs c g L m T H (h.push o) ((h.objs.size, o) :: R) ∧ ∀ p ∈ R, p.1 < h.objs.size := by
  obtain ⟨news, own, F, N, r, z⟩ := X
  have fr : ∀ p ∈ news, p.1 ≠ h.objs.size := fresh_of N
  have r' := r.push o fr
  refine ⟨⟨_, _, F.push _, N.push F o hf, ⟨r'.nd, r'.obj, fun p hp => ?_, r'.T⟩, z⟩, fun p hp => Heap.lt_size (N p (r.R p hp).1).1⟩
  rcases List.mem_cons.mp hp with rfl | hp
  · exact ⟨.head _, if_pos rfl⟩
  · exact r'.R p hp
noncomputable abbrev cellObj : Obj := { cls := .type "cell", data := .cell none }
theorem Bs.pushCells : ∀ (names : Names) {h : Heap} {R : Led} (acc : List (Str × Addr)), Bs c g L m T H h R → ∃ cells : Led, Bs c g L m T H (PySem.pushCells h names) (cells ++ R) ∧ (∀ p ∈ cells, p.2 = cellObj ∧ h.objs.size ≤ p.1) ∧ (cells.map (·.1)).Nodup ∧
    ∀ x a, (x, a) ∈ cellsFrom h.objs.size names acc → (x, a) ∈ acc ∨ (a, cellObj) ∈ cells
  | [], h, R, acc, X => ⟨[], X, (fun _ hp => nomatch hp), .nil, fun x a hx => .inl hx⟩
  | (x, k) :: r, h, R, acc, X => by
    unfold PySem.pushCells cellsFrom
    split
    · obtain ⟨X1, _⟩ := X.push cellObj rfl
      obtain ⟨cells, X2, h1, hnd, h2⟩ := Bs.pushCells r ((x, h.objs.size) :: acc) X1
      refine ⟨cells ++ [(h.objs.size, cellObj)], by simpa using X2, fun p hp => ?_, ?_, fun y a hy => ?_⟩
      · rcases List.mem_append.mp hp with hp | hp
        · have := h1 p hp; rw [Heap.size_push] at this; exact ⟨this.1, Nat.le_of_succ_le this.2⟩
        · rw [List.mem_singleton.mp hp]; exact ⟨rfl, Nat.le_refl _⟩
      · rw [List.map_append, List.nodup_append]
        refine ⟨hnd, by simp, fun a ha b hb e => ?_⟩
        obtain ⟨p, hp, rfl⟩ := List.mem_map.mp ha
        have := (h1 p hp).2
        rw [Heap.size_push, e, List.mem_singleton.mp hb] at this
        exact Nat.lt_irrefl _ this
      · rw [Heap.size_push] at h2
        rcases h2 y a hy with h3 | h3
        · rcases List.mem_cons.mp h3 with h3 | h3
          · cases h3; exact .inr (List.mem_append_right _ (.head _))
          · exact .inl h3
        · exact .inr (List.mem_append_left _ h3)
    · exact Bs.pushCells r acc X
end


/-! the cells of a comprehension's frame -/
noncomputable def clOf (env : Env) : Names → List (Str × Addr) → List (Str × Addr)
  | [], acc => acc
  | (n, k) :: r, acc => if k == .free then clOf env r ((n, (env.cells.lookup n).getD 0) :: acc) else clOf env r acc
theorem closure_ok {scope : Scope} {env : Env} (h : ∀ p ∈ scope.names, p.2 = .free → ∃ a, env.cells.lookup p.1 = some a) : closureFor scope env = pure (clOf env scope.names []) := by
  have key : ∀ (names : Names) (acc : List (Str × Addr)), (∀ p ∈ names, p.2 = .free → ∃ a, env.cells.lookup p.1 = some a) →
      (forIn names acc fun x r => (match x with | (name, kind) => if (kind == NameKind.free) = true then (do let a ← cellOf env name; pure (ForInStep.yield ((name, a) :: r))) else pure (ForInStep.yield r)) : Sem (List (Str × Addr))) = pure (clOf env names acc) := by
    intro names
    induction names with
    | nil => intro acc _; rfl
    | cons p r ih =>
      intro acc hp
      obtain ⟨n, k⟩ := p
      rw [List.forIn_cons]
      unfold clOf
      by_cases hk : (k == NameKind.free) = true
      · obtain ⟨a, ha⟩ := hp (n, k) (.head _) (beq_iff_eq.mp hk)
        have hc : cellOf env n = pure a := by unfold cellOf; rw [ha]
        simp only [hk, if_true, hc, ha, Option.getD_some]
        exact ih _ fun q hq => hp q (.tail _ hq)
      · simp only [hk]
        exact ih _ fun q hq => hp q (.tail _ hq)
  unfold closureFor
  have := key scope.names [] h
  show (forIn scope.names [] _ >>= fun cs => pure cs) = _
  rw [show (forIn scope.names ([] : List (Str × Addr)) _ : Sem (List (Str × Addr))) = pure (clOf env scope.names []) from this]
  rfl
theorem clOf_mem {env : Env} : ∀ {names : Names} {acc : List (Str × Addr)} {x : Str} {a : Addr}, (x, a) ∈ clOf env names acc → (x, a) ∈ acc ∨ ((x, NameKind.free) ∈ names ∧ a = (env.cells.lookup x).getD 0)
  | [], _, _, _, h => .inl h
  | (n, k) :: r, acc, x, a, h => by
    unfold clOf at h
    split at h
    · rename_i hk
      rcases clOf_mem h with h1 | ⟨h1, h2⟩
      · rcases List.mem_cons.mp h1 with h1 | h1
        · cases h1; exact .inr ⟨by rw [beq_iff_eq.mp hk]; exact .head _, rfl⟩
        · exact .inl h1
      · exact .inr ⟨.tail _ h1, h2⟩
    · rcases clOf_mem h with h1 | ⟨h1, h2⟩
      · exact .inl h1
      · exact .inr ⟨.tail _ h1, h2⟩
theorem lookup_some {α β : Type} [BEq α] [LawfulBEq α] {k : α} {v : β} : ∀ {l : List (α × β)}, (k, v) ∈ l → (l.lookup k).isSome = true
  | (a, b) :: r, h => by
    rw [List.lookup_cons]
    split
    · rfl
    · rename_i hne
      rcases List.mem_cons.mp h with e | h
      · cases e; simp at hne
      · exact lookup_some h
theorem clOf_acc {env : Env} : ∀ {names : Names} {acc : List (Str × Addr)} {p : Str × Addr}, p ∈ acc → p ∈ clOf env names acc
  | [], _, _, h => h
  | (n, k) :: r, acc, p, h => by
    unfold clOf
    split
    · exact clOf_acc (.tail _ h)
    · exact clOf_acc h
theorem clOf_has {env : Env} : ∀ {names : Names} {acc : List (Str × Addr)} {x : Str}, (x, NameKind.free) ∈ names → (x, (env.cells.lookup x).getD 0) ∈ clOf env names acc
  | (n, k) :: r, acc, x, h => by
    unfold clOf
    rcases List.mem_cons.mp h with e | h
    · cases e
      exact clOf_acc (.head _)
    · split <;> exact clOf_has h
theorem cellsFrom_mem : ∀ {names : Names} {n : Nat} {acc : List (Str × Addr)} {x : Str} {a : Addr}, (x, a) ∈ cellsFrom n names acc → (x, a) ∈ acc ∨ (x, NameKind.cell) ∈ names
  | [], _, _, _, _, h => .inl h
  | (y, k) :: r, n, acc, x, a, h => by
    unfold cellsFrom at h
    split at h
    · rename_i hk
      rcases cellsFrom_mem h with h1 | h1
      · rcases List.mem_cons.mp h1 with h1 | h1
        · cases h1; exact .inr (by rw [beq_iff_eq.mp hk]; exact .head _)
        · exact .inl h1
      · exact .inr (.tail _ h1)
    · rcases cellsFrom_mem h with h1 | h1
      · exact .inl h1
      · exact .inr (.tail _ h1)
theorem nd_fst {α β : Type} {l : List (α × β)} (h : (l.map (·.1)).Nodup) {a : α} {b b' : β} (h1 : (a, b) ∈ l) (h2 : (a, b') ∈ l) : b = b' := by
  induction l with
  | nil => cases h1
  | cons p r ih =>
    simp only [List.map_cons, List.nodup_cons] at h
    rcases List.mem_cons.mp h1 with e1 | h1 <;> rcases List.mem_cons.mp h2 with e2 | h2
    · rw [← e1] at e2; cases e2; rfl
    · exact absurd (List.mem_map.mpr ⟨(a, b'), h2, by rw [← e1]⟩) h.1
    · exact absurd (List.mem_map.mpr ⟨(a, b), h1, by rw [← e2]⟩) h.1
    · exact ih h.2 h1 h2

noncomputable def isCellIn (names : Names) (x : Str) : Bool := match lk x names 0 with | some (_, .cell) => true | _ => false
noncomputable def relab (names snames : Names) : Names := snames.map fun p => (p.1, if (p.2 == .free && isCellIn names p.1) = true then .cell else p.2)
noncomputable def frOk (names snames : Names) (fr : List (Option Nat)) : Bool := fr.length == snames.length && (snames.zip fr).all fun q => match q.2 with
  | some j => q.1.2 == .free && (match lk q.1.1 names 0 with | some (j', k) => j' == j && (k == .cell || k == .free) | none => false)
  | none => !(q.1.2 == .free)
noncomputable def frB (ρ : List V) : Option Nat → Prop
  | some j => (match ρ[j]? with | some .un => False | some _ => True | none => False)
  | none => True
noncomputable def cEnv (fr : List (Option Nat)) (ρ : List V) : List V := fr.map fun o => match o with | some j => ρ.getD j .un | none => .un
structure CompOk (names : Names) (scope : Scope) (fr : List (Option Nat)) : Prop where
  kind : scope.kind = .function
  nd : (scope.names.map (·.1)).Nodup
  fr : frOk names scope.names fr = true
  db : scope.names.all (fun p => !(p.1 == ("__debug__" : Str)) && !(p.1 == ("__classdict__" : Str))) = true

section
variable {c : Cx} {f : Fx} {T : Led} {ρ : List V} {H : Hp} {s : Shared}
theorem frOk_free {names snames : Names} {fr : List (Option Nat)} (h : frOk names snames fr = true) {i : Nat} {x : Str} {k : NameKind} (hi : snames[i]? = some (x, k)) :
    (k = .free ∧ ∃ j kk, fr[i]? = some (some j) ∧ lk x names 0 = some (j, kk) ∧ (kk = .cell ∨ kk = .free)) ∨ (k ≠ .free ∧ fr[i]? = some none) := by
  unfold frOk at h
  rw [Bool.and_eq_true, beq_iff_eq] at h
  have hlt : i < snames.length := (List.getElem?_eq_some_iff.mp hi).1
  obtain ⟨o, ho⟩ : ∃ o, fr[i]? = some o := ⟨fr[i]'(by omega), List.getElem?_eq_getElem _⟩
  have h1 := List.all_eq_true.mp h.2 ((x, k), o) (zip_get hi ho)
  induction o using Option.casesOn with
  | none => exact .inr ⟨by simpa using h1, ho⟩
  | some j =>
    simp only [Bool.and_eq_true, beq_iff_eq] at h1
    refine .inl ⟨h1.1, j, ?_⟩
    have h2 := h1.2
    split at h2
    · rename_i j' kk e
      simp only [Bool.and_eq_true, Bool.or_eq_true, beq_iff_eq] at h2
      obtain ⟨rfl, h3⟩ := h2
      exact ⟨kk, ho, e, h3⟩
    · cases h2
theorem relab_eq {scope : Scope} {fr : List (Option Nat)} (fm : Fm c f) (h : frOk f.names scope.names fr = true) : (relabel scope f.env).names = relab f.names scope.names := by
  show scope.names.map _ = scope.names.map _
  apply List.map_congr_left
  intro p hp
  obtain ⟨i, hi⟩ := List.mem_iff_getElem?.mp hp
  have e1 : (f.env.scope.kind == ScopeKind.function) = true := by rw [fm.kind]; rfl
  rcases frOk_free h (x := p.1) (k := p.2) hi with ⟨h1, j, kk, _, h3, h4⟩ | ⟨h1, _⟩
  · have h5 := fm.nms p.1 j kk h3
    obtain ⟨x, k⟩ := p
    simp only at h1 h3 h5
    subst h1
    show (if (NameKind.free == NameKind.free && f.env.scope.kind == .function && f.env.kindOf x == some .cell) = true then (x, NameKind.cell) else (x, NameKind.free)) = _
    rw [e1, h5]
    unfold isCellIn
    dsimp only
    rw [h3]
    rcases h4 with rfl | rfl <;> rfl
  · have h2 : (p.2 == NameKind.free) = false := beq_eq_false_iff_ne.mpr h1
    obtain ⟨x, k⟩ := p
    simp only at h2
    show (if (k == NameKind.free && f.env.scope.kind == .function && f.env.kindOf x == some .cell) = true then (x, NameKind.cell) else (x, k)) = _
    dsimp only
    rw [h2]; rfl
theorem relab_get {names snames : Names} {i : Nat} {x : Str} {k : NameKind} (h : (relab names snames)[i]? = some (x, k)) : ∃ k0, snames[i]? = some (x, k0) ∧ (k = k0 ∨ (k0 = .free ∧ k = .cell)) := by
  unfold relab at h
  rw [List.getElem?_map] at h
  obtain ⟨p, hp, e⟩ := Option.map_eq_some_iff.mp h
  simp only [Prod.mk.injEq] at e
  obtain ⟨e1, e2⟩ := e
  refine ⟨p.2, by rw [hp, ← e1], ?_⟩
  split at e2
  · rename_i hc
    rw [Bool.and_eq_true, beq_iff_eq] at hc
    exact .inr ⟨hc.1, e2.symm⟩
  · exact .inl e2.symm

/-- what is seen from outside -/
theorem free_loc {scope : Scope} {fr : List (Option Nat)} {h : Heap} {m : Str → Option Value} {cs news : Led} {own : Own} (fm : Fm c f) (ok : CompOk f.names scope fr) (X : Sx c f T ρ H h m cs news own) {x : Str} {i : Nat} {k : NameKind} {mv : V}
    (hl : lk x (relab f.names scope.names) 0 = some (i, k)) (hv : (cEnv fr ρ)[i]? = some mv) (hu : mv ≠ .un) :
    (x, NameKind.free) ∈ scope.names ∧ (k = .cell ∨ k = .free) ∧ ∃ v a o, VR T mv v ∧ f.env.cells.lookup x = some a ∧ (a, o) ∈ f.R ++ cs ∧ o.data = .cell (some v) := by
  obtain ⟨_, h1⟩ := lk_get hl
  rw [Nat.sub_zero] at h1
  obtain ⟨k0, h2, h3⟩ := relab_get h1
  rcases frOk_free ok.fr h2 with ⟨rfl, j, kk, h5, h6, h7⟩ | ⟨_, h5⟩
  · refine ⟨List.mem_of_getElem? h2, h3.elim (fun e => .inr e) fun e => .inl e.2, ?_⟩
    unfold cEnv at hv
    rw [List.getElem?_map, h5] at hv
    simp only [Option.map_some, Option.some.injEq] at hv
    have hj : ρ[j]? = some mv := by
      rw [List.getD_eq_getElem?_getD] at hv
      cases e : ρ[j]? with
      | none => rw [e] at hv; exact absurd hv.symm hu
      | some w => rw [e] at hv; rw [← hv]; rfl
    obtain ⟨_, v, v1, v2⟩ := X.l x j kk mv h6 (by rcases h7 with rfl | rfl <;> simp) hj hu
    have hk := fm.nms x j kk h6
    rcases v2 with ⟨a1, _⟩ | ⟨a1, _⟩ | ⟨_, a, o, a1, a2, a3⟩
    · rw [hk] at a1; rcases h7 with rfl | rfl <;> cases a1
    · rw [hk] at a1; rcases h7 with rfl | rfl <;> cases a1
    · exact ⟨v, a, o, v1, a1, a2, a3⟩
  · unfold cEnv at hv
    rw [List.getElem?_map, h5] at hv
    obtain rfl := Option.some.inj hv
    exact absurd rfl hu
end

noncomputable abbrev CF (f : Fx) (m : Str → Option Value) (env : Env) (names : Names) (D I : Addr) (base : Led) (RC : Led) (oD oI : Obj) : Fx :=
  { A := f.A, g := f.g, env := env, L := f.L, R := (D, oD) :: (I, oI) :: (RC ++ base), names := names, mm := fun m' => m' = m }
noncomputable def loopC (G : Hp → Prop) (tgt : V → (List V → Prop) → Prop) (t : pTest) (e : PT) : List V → List V → Cl → Hp → (List V → Hp → Prop) → Prop
  | [], acc, _, H, K => G H ∧ K acc H
  | v :: r, acc, C, H, K => G H ∧ tgt v fun ρ => t C ρ H fun b H => match b with
    | true => e C ρ H fun y H => acc.length ≤ 100000 ∧ loopC G tgt t e r (acc ++ [y]) C H K
    | false => loopC G tgt t e r acc C H K
noncomputable def SBF (c : Cx) (names : Names) (ifs : List Expr) (Pt : pTest) : Prop :=
  ∀ (f : Fx) d C, Fm c f → f.names = names → Room f.A d → SC c d C → ∀ T ρ H s Qm Q, St c f T ρ H s.heap → Pt C ρ H Qm → PostB c f T ρ s Q Qm →
    wpAny c.M f.A (forIn ifs true fun c r => if r = true then do let ok ← isTrue c f.env (eval c f.env); pure (ForInStep.yield ok) else pure (ForInStep.yield r)) Q noE s
noncomputable def tTrue : pTest := fun _ _ H Q => Q true H
theorem SBF_nil {c : Cx} {names : Names} : SBF c names [] tTrue := fun f d C fm hn rm sc T ρ H s Qm Q S q p => wpAny_tests_nil (p true T H s.heap s.toks (fun _ z => z) S q)
section
variable {c : Cx} {f : Fx}
theorem bs_of {m : Str → Option Value} {env : Env} {names : Names} {D I : Addr} {base RC : Led} {oD oI : Obj} {T : Led} {ρ : List V} {H : Hp} {h : Heap} (S : St c (CF f m env names D I base RC oD oI) T ρ H h) :
    Bs c f.g f.L m T H h ((D, oD) :: (I, oI) :: (RC ++ base)) := by
  obtain ⟨m', cs, news, own, X⟩ := S
  have e : m' = m := X.k.2.2
  subst e
  exact ⟨news, own, X.F, X.N, X.r.subR fun p hp => List.mem_append_left _ hp, X.z⟩
theorem of_bs {m : Str → Option Value} {env : Env} {names : Names} {D I : Addr} {base RC : Led} {oD oI : Obj} {T : Led} {ρ : List V} {H : Hp} {h : Heap} (hne : env.locals ≠ f.L) (B : Bs c f.g f.L m T H h ((D, oD) :: (I, oI) :: (RC ++ base)))
    (l : LocR names env f.L m (RC ++ base) T ρ) : St c (CF f m env names D I base RC oD oI) T ρ H h := by
  obtain ⟨news, own, F, N, r, z⟩ := B
  refine ⟨m, [], news, own, F, N, by rw [List.append_nil]; exact r, fun x i k mv h1 h2 h3 h4 => ?_, ⟨(fun _ hp => nomatch hp), fun e => absurd e hne, rfl⟩, z⟩
  obtain ⟨a, v, b, d⟩ := l x i k mv h1 h2 h3 h4
  refine ⟨a, v, b, ?_⟩
  have up : ∀ {p}, p ∈ RC ++ base → p ∈ (CF f m env names D I base RC oD oI).R ++ [] := fun hp => by rw [List.append_nil]; exact .tail _ (.tail _ hp)
  rcases d with d | ⟨d1, oC, m2, d2, d3⟩ | ⟨d1, a2, o2, d2, d3, d4⟩
  · exact .inl d
  · exact .inr (.inl ⟨d1, oC, m2, up d2, d3⟩)
  · exact .inr (.inr ⟨d1, a2, o2, d2, up d3, d4⟩)

theorem comp_loop {d : Nat} {C : Cl} (rm : Room f.A d) (sc : SC c d C) {m : Str → Option Value} {env : Env} {names : Names} {D I : Addr} {base : Led} {ad : List Addr}
    {elt target iter : Expr} {ifs : List Expr} {scope : Scope} {pos : Pos} {Pt : pTest} {Pe : PT} {G : Hp → Prop} {tgt : V → (List V → Prop) → Prop} {Nx : Nat → Obj → Prop} {Lay : Led → Prop} {items : List V} {R : Result → Shared → Prop} {T : Led} {s : Shared} {K : List V → Hp → Prop}
    (hne : env.locals ≠ f.L) (fm : ∀ RC oD oI, Lay RC → Fm c (CF f m env names D I base RC oD oI)) (had : ∀ RC, Lay RC → RC.map (·.1) = ad) (hD : D ≠ I ∧ D ∉ ad ∧ D ∉ base.map (·.1)) (hI : I ∉ ad ∧ I ∉ base.map (·.1)) (hB : ∀ p ∈ base, p.1 ∉ ad)
    (hT : SBF c names ifs Pt) (hE : SE c names elt Pe) (ht : ∀ i o v s Q, Nx i o → s.heap.get? I = some o → Q () s → wpAny c.M f.A (letOwnedTupleGo target (.ref I) v) Q noE s)
    (hNx : ∀ i o, Nx i o → ∀ ws n, o ≠ tupObj ws n)
    (hitem : ∀ i o mv s T H Q R, Nx i o → s.heap.get? I = some o → G H → items[i]? = some mv → Bs c f.g f.L m T H s.heap R → (∀ h' o' tk x, VR T mv x → Nx (i + 1) o' → h'.get? I = some o' → Heap.SameBut I s.heap h' → Q (some x) { s with heap := h', toks := tk }) → wpAny c.M f.A (pyNext (.ref I)) Q noE s)
    (hdone : ∀ i o s T H Q R, Nx i o → s.heap.get? I = some o → G H → items[i]? = none → Bs c f.g f.L m T H s.heap R → (∀ h', (∀ b x, b ≠ I → s.heap.get? b = some x → h'.get? b = some x) → Q none { s with heap := h' }) → wpAny c.M f.A (pyNext (.ref I)) Q noE s)
    (hstore : ∀ RC R' T' H s mv x (K : List V → Prop) Q, (∀ z ∈ T, z ∈ T') → Lay RC → Bs c f.g f.L m T' H s.heap (RC ++ R') → (∀ p ∈ R', p.1 ∉ ad) → (∀ p ∈ base, p ∈ R') → VR T' mv x → tgt mv K →
      (∀ RC' h' tk ρ, Lay RC' → Bs c f.g f.L m T' H h' (RC' ++ R') → LocR names env f.L m (RC' ++ base) T' ρ → K ρ → Q () { s with heap := h', toks := tk }) → wpAny c.M f.A (assign target env x) Q noE s)
    (hend : ∀ acc xs k RC T' H h' tk, (∀ z ∈ T, z ∈ T') → VRs T' acc xs → Lay RC → Bs c f.g f.L m T' H h' ((D, listOf xs.toArray k) :: (RC ++ base)) → K acc H → R (.ok .next) { s with heap := h', toks := tk }) :
    ∀ (r pre : List V) (T1 : Led) (H1 : Hp) (s1 : Shared) (acc : List V) (xs : List Value) (k : Nat) (RC : Led) (oI : Obj), items = pre ++ r → (∀ z ∈ T, z ∈ T1) → VRs T1 acc xs → acc.length ≤ 100001 → Lay RC → Nx pre.length oI →
      Bs c f.g f.L m T1 H1 s1.heap ((D, listOf xs.toArray k) :: (I, oI) :: (RC ++ base)) → (∃ h tk, s1 = { s with heap := h, toks := tk }) → loopC G tgt Pt Pe r acc C H1 K →
      codeAny c.M f.A (.compLoop (.ListComp elt [⟨target, iter, ifs, 0⟩] scope pos) 0 (.ref I) (.ref D) env) R s1 := by
  have offA : ∀ {RC : Led} {a : Addr}, Lay RC → a ∉ ad → ∀ p ∈ RC, p.1 ≠ a := fun hl ha p hp e => ha (had _ hl ▸ e ▸ List.mem_map_of_mem hp)
  have offB : ∀ {a : Addr}, a ∉ base.map (·.1) → ∀ p ∈ base, p.1 ≠ a := fun ha p hp e => ha (e ▸ List.mem_map_of_mem hp)
  intro r
  induction r with
  | nil =>
    rintro pre T1 H1 s1 acc xs k RC oI hits hT1 hv hacc hl hnx B ⟨hh, tk, rfl⟩ ⟨q1, q2⟩
    refine comp_step (hdone pre.length oI _ T1 H1 _ _ hnx (B.get (.tail _ (.head _))).1 q1 (by rw [hits]; simp) B fun h5 he5 => ?_)
    refine hend acc xs k RC T1 H1 h5 tk hT1 hv hl (B.drop (.tail _ (.head _)) (hNx _ _ hnx) he5 fun p hp => ?_) q2
    rcases List.mem_cons.mp hp with rfl | hp
    · exact ⟨.head _, hD.1⟩
    · refine ⟨.tail _ (.tail _ hp), ?_⟩
      rcases List.mem_append.mp hp with hp | hp
      · exact offA hl hI.1 p hp
      · exact offB hI.2 p hp
  | cons v r ih =>
    rintro pre T1 H1 s1 acc xs k RC oI hits hT1 hv hacc hl hnx B ⟨hh, tk, rfl⟩ ⟨q1, q2⟩
    refine comp_step (hitem pre.length oI v _ T1 H1 _ _ hnx (B.get (.tail _ (.head _))).1 q1 (by rw [hits]; simp) B fun h5 oI5 tk5 x hx hnx5 g5 hs5 => ht _ oI5 x { s with heap := h5, toks := tk5 } _ hnx5 g5 ?_)
    have B5 : Bs c f.g f.L m T1 H1 h5 (RC ++ ((D, listOf xs.toArray k) :: (I, oI5) :: base)) := B.upd (.tail _ (.head _)) (hNx _ _ hnx) hs5 g5 fun p hp => by
      rcases List.mem_append.mp hp with hp | hp
      · exact .inr ⟨.tail _ (.tail _ (List.mem_append_left _ hp)), offA hl hI.1 p hp⟩
      · rcases List.mem_cons.mp hp with rfl | hp
        · exact .inr ⟨.head _, hD.1⟩
        · rcases List.mem_cons.mp hp with rfl | hp
          · exact .inl rfl
          · exact .inr ⟨.tail _ (.tail _ (List.mem_append_right _ hp)), offB hI.2 p hp⟩
    refine hstore RC _ T1 H1 { s with heap := h5, toks := tk5 } v x _ _ hT1 hl B5 (fun p hp => ?_) (fun p hp => .tail _ (.tail _ hp)) hx q2 fun RC6 h6 tk6 ρ hl6 B6 loc6 q6 => ?_
    · rcases List.mem_cons.mp hp with rfl | hp
      · exact hD.2.1
      · rcases List.mem_cons.mp hp with rfl | hp
        · exact hI.1
        · exact hB p hp
    have fm6 := fm RC6 (listOf xs.toArray k) oI5 hl6
    have S6 : St c (CF f m env names D I base RC6 (listOf xs.toArray k) oI5) T1 ρ H1 h6 := of_bs hne (B6.sub fun p hp => by
      rcases List.mem_cons.mp hp with rfl | hp
      · exact List.mem_append_right _ (.head _)
      · rcases List.mem_cons.mp hp with rfl | hp
        · exact List.mem_append_right _ (.tail _ (.head _))
        · rcases List.mem_append.mp hp with hp | hp
          · exact List.mem_append_left _ hp
          · exact List.mem_append_right _ (.tail _ (.tail _ hp))) loc6
    refine hT (CF f m env names D I base RC6 (listOf xs.toArray k) oI5) d C fm6 rfl rm sc T1 ρ H1 { s with heap := h6, toks := tk6 } _ _ S6 q6 fun b T7 H7 h7 tk7 hT7 S7 q7 => ?_
    have hTT : ∀ z ∈ T, z ∈ T7 := fun z hz => hT7 z (hT1 z hz)
    induction b using Bool.casesOn with
    | false =>
      refine ih (pre ++ [v]) T7 H7 _ acc xs k RC6 oI5 (by rw [hits]; simp) hTT (hv.mono hT7) hacc hl6 (by simpa using hnx5) (bs_of S7) ⟨_, _, rfl⟩ q7
    | true =>
      refine hE (CF f m env names D I base RC6 (listOf xs.toArray k) oI5) d C fm6 rfl rm sc T7 ρ H7 { s with heap := h7, toks := tk7 } _ _ S7 q7 fun y u T8 H8 h8 tk8 hT8 hu S8 q8 => ?_
      have hv8 := (hv.mono hT7).mono hT8
      have hlen := hv8.length
      refine (bs_of S8).append (s := { s with heap := h8, toks := tk8 }) (.head _) (by omega) (R2 := (D, listOf (xs ++ [u]).toArray (k + 1)) :: (I, oI5) :: (RC6 ++ base)) (fun p hp => ?_) fun h9 B9 => ?_
      · rcases List.mem_cons.mp hp with rfl | hp
        · exact .inl rfl
        · refine .inr ⟨.tail _ hp, ?_⟩
          rcases List.mem_cons.mp hp with rfl | hp
          · exact Ne.symm hD.1
          · rcases List.mem_append.mp hp with hp | hp
            · exact offA hl6 hD.2.1 p hp
            · exact offB hD.2.2 p hp
      · exact ih (pre ++ [v]) T8 H8 _ (acc ++ [y]) (xs ++ [u]) (k + 1) RC6 oI5 (by rw [hits]; simp) (fun z hz => hT8 z (hTT z hz)) (hv8.append (.one hu)) (by simp; omega) hl6 (by simpa using hnx5) B9 ⟨_, _, rfl⟩ q8.2
end

set_option maxHeartbeats 400000

structure CE (snames names2 : Names) (env : Env) (Cn : Addr) (ca : List Addr) (base : Led) (fr : List (Option Nat)) (ρ : List V) (T : Led) : Prop where
  loc : env.locals = Cn
  kind : env.scope.kind = .function
  kindOf : ∀ x i k, lk x names2 0 = some (i, k) → env.kindOf x = some k
  db : ∀ x i k, lk x names2 0 = some (i, k) → (x == ("__debug__" : Str)) = false ∧ (x == ("__classdict__" : Str)) = false
  free : ∀ x i k mv, lk x names2 0 = some (i, k) → (cEnv fr ρ)[i]? = some mv → mv ≠ .un → (k = .cell ∨ k = .free) ∧ ∃ v a o, VR T mv v ∧ env.cells.lookup x = some a ∧ (a, o) ∈ base ∧ o.data = .cell (some v)
  own : ∀ x, (x, NameKind.cell) ∈ snames → ∃ a, env.cells.lookup x = some a ∧ a ∈ ca
  nd : (Cn :: ca).Nodup
noncomputable def Lay (Cn : Addr) (ca : List Addr) (RC : Led) : Prop := ∃ oC m0 cs', RC = (Cn, oC) :: cs' ∧ LCg.NsObj oC m0 ∧ cs'.map (·.1) = ca ∧ ∀ p ∈ cs', ∃ v, p.2.data = .cell v
theorem Lay.ad {Cn : Addr} {ca : List Addr} {RC : Led} (h : Lay Cn ca RC) : RC.map (·.1) = Cn :: ca := by
  obtain ⟨oC, m0, cs', rfl, _, h2, _⟩ := h
  rw [List.map_cons, h2]
noncomputable abbrev TG := List V → V → (List V → Prop) → Prop
noncomputable def TgtOk (c : Cx) (snames names2 : Names) (fr : List (Option Nat)) (target : Expr) (tgt : TG) : Prop :=
  ∀ (f : Fx) (env : Env) (Cn : Addr) (ca : List Addr) (base : Led) (ρ : List V) (T : Led) (m : Str → Option Value), Fm c f → CE snames names2 env Cn ca base fr ρ T →
  ∀ (RC R' T' : Led) (H : Hp) (s : Shared) (mv : V) (x : Value) (K : List V → Prop) (Q : Unit → Shared → Prop), (∀ z ∈ T, z ∈ T') → Lay Cn ca RC → Bs c f.g f.L m T' H s.heap (RC ++ R') → (∀ p ∈ R', p.1 ∉ Cn :: ca) → (∀ p ∈ base, p ∈ R') → VR T' mv x → tgt (cEnv fr ρ) mv K →
      (∀ RC' h' tk ρ, Lay Cn ca RC' → Bs c f.g f.L m T' H h' (RC' ++ R') → LocR names2 env f.L m (RC' ++ base) T' ρ → K ρ → Q () { s with heap := h', toks := tk }) → wpAny c.M f.A (assign target env x) Q noE s

noncomputable def tgName (i : Nat) : TG := fun ρ v K => K (ρ.set i v)
noncomputable def tgTwo (i j : Nat) : TG := fun ρ v K => two v fun a b => K ((ρ.set i a).set j b)
section
variable {c : Cx} {snames names2 : Names} {fr : List (Option Nat)}
theorem free_rd {env : Env} {Cn : Addr} {ca : List Addr} {base RC : Led} {ρ : List V} {T T' : Led} {L : Addr} {m : Str → Option Value} (E : CE snames names2 env Cn ca base fr ρ T) (hT : ∀ z ∈ T, z ∈ T') {x : Str} {i : Nat} {k : NameKind} {mv : V}
    (hl : lk x names2 0 = some (i, k)) (hv : (cEnv fr ρ)[i]? = some mv) (hu : mv ≠ .un) : (x == ("__debug__" : Str)) = false ∧ ∃ v, VR T' mv v ∧ Rd env L m (RC ++ base) x v := by
  obtain ⟨hk, v, a, o, h1, h2, h3, h4⟩ := E.free x i k mv hl hv hu
  have hd := E.db x i k hl
  have hko := E.kindOf x i k hl
  refine ⟨hd.1, v, h1.mono hT, .inr (.inr ⟨?_, a, o, h2, List.mem_append_right _ h3, h4⟩)⟩
  rcases hk with rfl | rfl
  · exact .inl hko
  · exact .inr ⟨hko, hd.2⟩
/-- one store into the frame's own names -/
theorem store_ns {f : Fx} {env : Env} {Cn : Addr} {ca : List Addr} {base : Led} {ρ : List V} {T : Led} {m : Str → Option Value} (E : CE snames names2 env Cn ca base fr ρ T) {x : Str} {i : Nat} (hl : lk x names2 0 = some (i, .local))
    {RC R' T' : Led} {H : Hp} {s : Shared} {v : Value} {Q : Unit → Shared → Prop} {oC : Obj} {m0 : Str → Option Value} {cs' : Led} (hRC : RC = (Cn, oC) :: cs') (hns : LCg.NsObj oC m0) (hca : cs'.map (·.1) = ca) (B : Bs c f.g f.L m T' H s.heap (RC ++ R')) (hR : ∀ p ∈ R', p.1 ∉ Cn :: ca)
    (q : ∀ h' tk oC', LCg.NsObj oC' (fun y => if y = x then some v else m0 y) → Bs c f.g f.L m T' H h' ((Cn, oC') :: cs' ++ R') → Q () { s with heap := h', toks := tk }) : wpAny c.M f.A (storeName env x v) Q noE s := by
  subst hRC
  have hx := E.kindOf x i _ hl
  have hg := B.get (p := (Cn, oC)) (.head _)
  refine wpAny_storeName_local hx (E.loc ▸ hns.ns hg.1) (fun h' hn hs => ?_) (by rw [E.kind]; rfl)
  rw [E.loc] at hn hs
  obtain ⟨oC', go, ho⟩ := LCg.ns_obj hn
  refine q h' _ oC' ho (B.upd (.head _) (fun ws n e => ?_) hs go fun p hp => ?_)
  · obtain ⟨es, ep, hd, _⟩ := hns
    rw [e] at hd; cases hd
  · rcases List.mem_append.mp hp with hp | hp
    · rcases List.mem_cons.mp hp with rfl | hp
      · exact .inl rfl
      · refine .inr ⟨List.mem_append_left _ (.tail _ hp), fun e => ?_⟩
        have nd := E.nd
        simp only [List.nodup_cons] at nd
        exact nd.1 (hca ▸ e ▸ List.mem_map_of_mem hp)
    · exact .inr ⟨List.mem_append_right _ hp, fun e => hR p hp (e ▸ .head _)⟩
theorem TgtOk_name {x : Str} {px : Pos} {i : Nat} (hl : lk x names2 0 = some (i, .local)) : TgtOk c snames names2 fr (.Name x px) (tgName i) := by
  intro f env Cn ca base ρ T m fm E RC R' T' H s mv v K Q hT hlay B hR hb hv hK q
  obtain ⟨oC, m0, cs', rfl, h1, h2, h3⟩ := hlay
  refine wpAny_assign_Name (store_ns E hl rfl h1 h2 B hR fun h' tk oC' ho B' => q _ h' tk _ ⟨oC', _, cs', rfl, ho, h2, h3⟩ B' (fun y j k w e1 e2 e3 e4 => ?_) hK)
  by_cases hj : j = i
  · subst hj
    have : y = x := lk_inj e1 hl
    subst this
    rw [List.getElem?_set] at e3
    split at e3
    · split at e3
      · obtain rfl := Option.some.inj e3
        exact ⟨(E.db y j _ hl).1, v, hv, .inr (.inl ⟨E.kindOf y j _ hl, oC', _, E.loc ▸ .head _, ho, if_pos rfl⟩)⟩
      · cases e3
    · rename_i h; exact absurd rfl h
  · rw [set_ne (Ne.symm hj)] at e3
    exact free_rd E hT e1 e3 e4
theorem unpack_B {c : Cx} {A : Around} {s : Shared} {t : Addr} {ws : List Value} {k n : Nat} {Q : List Value → Shared → Prop} (hh : A.handled = none) (ht : s.heap.get? t = some (tupObj ws k)) (hn : n = ws.length)
    (q : ∀ h', (∀ b o, s.heap.get? b = some o → h'.get? b = some o) → Q ws { s with heap := h' }) : wpAny c.M A (unpackItems (.ref t) n none) Q noE s := by
  have e : n = ws.toArray.size := by rw [hn, List.size_toArray]
  subst e
  refine unpackItems_tuple hh (isTup_of ht) fun h' he => ?_
  have := q h' fun b o e => he b o (Nat.ne_of_lt (Heap.lt_size e)) e
  simpa using this
theorem TgtOk_two {x y : Str} {px py tp : Pos} {i j kk : Nat} (hl : lk x names2 0 = some (i, .local)) (hl' : lk y names2 0 = some (j, .local)) (hij : i ≠ j) : TgtOk c snames names2 fr (.Tuple [.Name x px, .Name y py] kk tp) (tgTwo i j) := by
  intro f env Cn ca base ρ T m fm E RC R' T' H s mv z K Q hT hlay B hR hb hv hK q
  obtain ⟨oC, m0, cs', rfl, h1, h2, h3⟩ := hlay
  obtain ⟨a, b, rfl, hK⟩ := two_out hK
  cases hv with | tup hm hs =>
  rename_i t ws n
  obtain ⟨u, u', rfl, hu, hu'⟩ := hs.two
  have ht : s.heap.get? t = some (tupObj [u, u'] n) := by
    obtain ⟨news, own, F, N, r, z⟩ := B
    rcases r.T _ hm with ⟨e1, _⟩ | e1
    · exact (N _ e1).1
    · exact F.keep _ _ (fm.base.t0 _ e1)
  show wpAny c.M f.A (do standAt tp; unpack (.ref t) (assignEach [.Name x px, .Name y py] env)) _ _ _
  refine wpAny_bind (wpAny_standAt ?_)
  unfold unpack
  refine wpAny_bind (wpAny_holding (unpack_B fm.hand ht rfl fun h2' he => ?_))
  have B2 : Bs c f.g f.L m T' H h2' ((Cn, oC) :: cs' ++ R') := B.kept he
  show wpAny c.M f.A (do holding [u'] (assign (.Name x px) env u); assignInOrder [assign (.Name y py) env] [u']) _ _ _
  refine wpAny_bind (wpAny_holding (PyProof.Rows.assign_Name (store_ns (s := { s with heap := h2' }) E hl rfl h1 h2 B2 hR fun h3' tk3 oC3 ho3 B3 => ?_)))
  show wpAny c.M f.A (do holding [] (assign (.Name y py) env u'); pure ()) _ _ _
  refine wpAny_bind (wpAny_holding (PyProof.Rows.assign_Name (store_ns (s := { s with heap := h3', toks := tk3 }) E hl' rfl ho3 h2 B3 hR fun h4' tk4 oC4 ho4 B4 => wpAny_pure (q _ h4' tk4 _ ⟨oC4, _, cs', rfl, ho4, h2, h3⟩ B4 (fun w l k mv e1 e2 e3 e4 => ?_) hK))))
  have hne : x ≠ y := fun e => by subst e; rw [hl] at hl'; cases hl'; exact hij rfl
  by_cases hlj : l = j
  · subst hlj
    have : w = y := lk_inj e1 hl'
    subst this
    rw [List.getElem?_set] at e3
    split at e3
    · split at e3
      · obtain rfl := Option.some.inj e3
        exact ⟨(E.db w l _ hl').1, u', hu', .inr (.inl ⟨E.kindOf w l _ hl', oC4, _, E.loc ▸ .head _, ho4, if_pos rfl⟩)⟩
      · cases e3
    · rename_i h; exact absurd rfl h
  · rw [set_ne (Ne.symm hlj)] at e3
    by_cases hli : l = i
    · subst hli
      have : w = x := lk_inj e1 hl
      subst this
      rw [List.getElem?_set] at e3
      split at e3
      · split at e3
        · obtain rfl := Option.some.inj e3
          exact ⟨(E.db w l _ hl).1, u, hu, .inr (.inl ⟨E.kindOf w l _ hl, oC4, _, E.loc ▸ .head _, ho4, (if_neg hne).trans (if_pos rfl)⟩)⟩
        · cases e3
      · rename_i h; exact absurd rfl h
    · rw [set_ne (Ne.symm hli)] at e3
      exact free_rd E hT e1 e3 e4
theorem TgtOk_cell {x : Str} {px : Pos} {i : Nat} (hl : lk x names2 0 = some (i, .cell)) (hs : (x, NameKind.cell) ∈ snames) : TgtOk c snames names2 fr (.Name x px) (tgName i) := by
  intro f env Cn ca base ρ T m fm E RC R' T' H s mv v K Q hT hlay B hR hb hv hK q
  obtain ⟨oC, m0, cs', rfl, h1, h2, h3⟩ := hlay
  obtain ⟨a, ha1, ha2⟩ := E.own x hs
  obtain ⟨⟨a', o⟩, hmem, e0⟩ := List.mem_map.mp (h2 ▸ ha2 : a ∈ cs'.map (·.1))
  simp only at e0
  subst e0
  obtain ⟨v0, hv0⟩ := h3 _ hmem
  have nd := E.nd
  simp only [List.nodup_cons] at nd
  have hg := B.get (p := (a', o)) (List.mem_append_left _ (.tail _ hmem))
  refine wpAny_assign_Name (wpAny_storeName_cell E.kind (E.kindOf x i _ hl) ha1 ⟨o, hg.1, hv0⟩ fun h' hc hs' => ?_)
  obtain ⟨o', go, ho'⟩ := hc
  have hCa : Cn ≠ a' := fun e => nd.1 (e ▸ ha2)
  refine q ((Cn, oC) :: rep a' o' cs') h' s.toks _ ⟨oC, m0, _, rfl, h1, by rw [rep_fst]; exact h2, fun p hp => ?_⟩ (B.upd (List.mem_append_left _ (.tail _ hmem)) (fun ws n e => by rw [e] at hv0; cases hv0) hs' go fun p hp => ?_) (fun y j k w e1 e2 e3 e4 => ?_) hK
  · obtain ⟨r, hr, rfl⟩ := List.mem_map.mp hp
    by_cases e : r.1 = a'
    · rw [if_pos e]; exact ⟨_, ho'⟩
    · rw [if_neg e]; exact h3 r hr
  · rcases List.mem_append.mp hp with hp | hp
    · rcases List.mem_cons.mp hp with rfl | hp
      · exact .inr ⟨.head _, hCa⟩
      · obtain ⟨r, hr, rfl⟩ := List.mem_map.mp hp
        by_cases e : r.1 = a'
        · rw [if_pos e]; exact .inl rfl
        · rw [if_neg e]; exact .inr ⟨List.mem_append_left _ (.tail _ hr), e⟩
    · exact .inr ⟨List.mem_append_right _ hp, fun e => hR p hp (e ▸ .tail _ ha2)⟩
  · by_cases hj : j = i
    · subst hj
      have : y = x := lk_inj e1 hl
      subst this
      rw [List.getElem?_set] at e3
      split at e3
      · split at e3
        · obtain rfl := Option.some.inj e3
          exact ⟨(E.db y j _ hl).1, v, hv, .inr (.inr ⟨.inl (E.kindOf y j _ hl), a', o', ha1, List.mem_append_left _ (.tail _ (rep_self hmem)), ho'⟩)⟩
        · cases e3
      · rename_i h; exact absurd rfl h
    · rw [set_ne (Ne.symm hj)] at e3
      exact free_rd E hT e1 e3 e4
end
theorem letGo_ok {M : Model} {A : Around} {s : Shared} {target : Expr} {I : Addr} {o : Obj} {v : Value} {Q : Unit → Shared → Prop} {fs : Array Value} (ho : s.heap.get? I = some o) (hc : o.cls = .type "list_iterator" ∨ o.cls = .type "range_iterator") (hd : o.data = .fields fs) (q : Q () s) :
    wpAny M A (letOwnedTupleGo target (.ref I) v) Q noE s := by
  unfold letOwnedTupleGo
  induction target using Expr.casesOn <;> try exact wpAny_pure q
  all_goals
    induction v using Value.casesOn <;> try exact wpAny_pure q
    refine wpAny_bind (wpAny_load ho ?_)
    rcases hc with hc | hc <;> rw [hc, hd] <;> exact wpAny_pure q

set_option maxHeartbeats 800000

section
variable {c : Cx} {f : Fx} {T : Led} {ρ : List V} {H : Hp} {s : Shared}
theorem frees_bound {scope : Scope} {fr : List (Option Nat)} {h : Heap} (fm : Fm c f) (ok : CompOk f.names scope fr) (S : St c f T ρ H h) (hfr : ∀ o ∈ fr, frB ρ o) : ∀ p ∈ scope.names, p.2 = .free → ∃ a, f.env.cells.lookup p.1 = some a := by
  obtain ⟨m, cs, news, own, X⟩ := S
  intro p hp hk
  obtain ⟨i, hi⟩ := List.mem_iff_getElem?.mp hp
  rcases frOk_free ok.fr (x := p.1) (k := p.2) hi with ⟨_, j, kk, h1, h2, h3⟩ | ⟨h1, _⟩
  · have hb := hfr _ (List.mem_of_getElem? h1)
    simp only [frB] at hb
    split at hb
    · exact hb.elim
    · rename_i v hne e
      obtain ⟨_, w, _, rd⟩ := X.l p.1 j kk v h2 (by rcases h3 with rfl | rfl <;> simp) e (fun q => hne q)
      have hko := fm.nms p.1 j kk h2
      rcases rd with ⟨a1, _⟩ | ⟨a1, _⟩ | ⟨_, a, _, a1, _⟩
      · rw [hko] at a1; rcases h3 with rfl | rfl <;> cases a1
      · rw [hko] at a1; rcases h3 with rfl | rfl <;> cases a1
      · exact ⟨a, a1⟩
    · exact hb.elim
  · exact absurd hk h1

theorem comp_body {d : Nat} {C : Cl} {scope : Scope} {fr : List (Option Nat)} {target elt iter : Expr} {ifs : List Expr} {pos : Pos} {Pt : pTest} {Pe : PT} {G : Hp → Prop} {tgt : TG} {items : List V} {Nx : Nat → Obj → Prop} {oI : Obj}
    {m : Str → Option Value} {cs news : Led} {own : Own} {RR : Value → Addr → Result → Shared → Prop} {K : List V → Hp → Prop}
    (fm : Fm c f) (rm : Room f.A d) (sc : SC c d C) (ok : CompOk f.names scope fr) (hT : SBF c (relab f.names scope.names) ifs Pt) (hE : SE c (relab f.names scope.names) elt Pe) (hTg : TgtOk c scope.names (relab f.names scope.names) fr target tgt)
    (X : Sx c f T ρ H s.heap m cs news own) (hf : oI.isFreed = false) (hNx : ∀ i o, Nx i o → (o.cls = .type "list_iterator" ∨ o.cls = .type "range_iterator") ∧ ∃ fs, o.data = .fields fs) (hNx0 : Nx 0 oI)
    (hitem : ∀ i o mv s1 T H Q R, Nx i o → s1.heap.get? s.heap.objs.size = some o → G H → items[i]? = some mv → Bs c f.g f.L m T H s1.heap R → (∀ h' o' tk x, VR T mv x → Nx (i + 1) o' → h'.get? s.heap.objs.size = some o' → Heap.SameBut s.heap.objs.size s1.heap h' → Q (some x) { s1 with heap := h', toks := tk }) → wpAny c.M f.A (pyNext (.ref s.heap.objs.size)) Q noE s1)
    (hdone : ∀ i o s1 T H Q R, Nx i o → s1.heap.get? s.heap.objs.size = some o → G H → items[i]? = none → Bs c f.g f.L m T H s1.heap R → (∀ h', (∀ b x, b ≠ s.heap.objs.size → s1.heap.get? b = some x → h'.get? b = some x) → Q none { s1 with heap := h' }) → wpAny c.M f.A (pyNext (.ref s.heap.objs.size)) Q noE s1)
    (hpy : ∀ (s1 : Shared) (Q : Value → Shared → Prop) (E : Value → Shared → Prop), s1.heap.get? s.heap.objs.size = some oI → Q (.ref s.heap.objs.size) s1 → wpAny c.M f.A (pyIter (.ref s.heap.objs.size)) Q E s1)
    (q : loopC G (tgt (cEnv fr ρ)) Pt Pe items [] C H K)
    (hend : ∀ D Cn oC m' acc T' H' h' tk, (∀ z ∈ T, z ∈ T') → LCg.NsObj oC m' → s.heap.objs.size < Cn → Bs c f.g f.L m T' (H'.set D (.lst acc)) h' ((Cn, oC) :: (f.R ++ cs)) → H' D = none → K acc H' → RR (.ref D) Cn (.ok .next) { s with heap := h', toks := tk }) :
    wpAny c.M f.A (newList []) (fun acc s₃ => wpAny c.M f.A (newFunctionEnv scope f.env.globals (clOf f.env scope.names []) [] f.env.qual none .none (some f.env)) (fun cenv s₄ =>
      codeAny c.M f.A (.compStart (.ListComp elt [⟨target, iter, ifs, 0⟩] scope pos) 0 (.ref s.heap.objs.size) acc { cenv with scope := relabel scope f.env }) (RR acc cenv.locals) s₄) noE s₃) noE { s with heap := s.heap.push oI } := by
  have B0 : Bs c f.g f.L m T H s.heap (f.R ++ cs) := ⟨news, own, X.F, X.N, X.r, X.z⟩
  obtain ⟨B1, lt1⟩ := B0.push oI hf
  obtain ⟨B2, lt2⟩ := B1.push (listOf ([] : List Value).toArray 0) rfl
  obtain ⟨B3, lt3⟩ := B2.push { cls := .type "dict", data := .dict #[] } rfl
  obtain ⟨cells, B4, hc1, hcnd, hc2⟩ := B3.pushCells scope.names (clOf f.env scope.names [])
  refine wpAny_newObj_type (newCompEnv ?_)
  have hD : (s.heap.push oI).objs.size = s.heap.objs.size + 1 := Heap.size_push ..
  have hC : ((s.heap.push oI).push (listOf ([] : List Value).toArray 0)).objs.size = s.heap.objs.size + 2 := by rw [Heap.size_push, hD]
  have hC3 : (((s.heap.push oI).push (listOf ([] : List Value).toArray 0)).push { cls := .type "dict", data := .dict #[] }).objs.size = s.heap.objs.size + 3 := by rw [Heap.size_push, hC]
  rw [hD] at B2 lt2
  rw [hD, hC] at B3
  rw [hC3] at hc1 hc2
  rw [hD, hC] at B4
  dsimp only
  rw [hC]
  generalize hI : s.heap.objs.size = I at *
  generalize hhp : pushCells (((s.heap.push oI).push (listOf ([] : List Value).toArray 0)).push { cls := .type "dict", data := .dict #[] }) scope.names = h4 at *
  have names_eq := relab_eq fm ok.fr
  let env2 : Env := { scope := relabel scope f.env, locals := I + 2, globals := f.env.globals, cells := cellsFrom (I + 2 + 1) scope.names (clOf f.env scope.names []), qual := f.env.qual, func := none, code := f.env.code, frame := f.env.frame, builtins := f.env.builtins }
  have kindOf : ∀ x i k, lk x (relab f.names scope.names) 0 = some (i, k) → env2.kindOf x = some k := fun x i k h => by
    show (relabel scope f.env).names.lookup x = some k
    rw [names_eq]; exact lk_lookup h
  have hLlt : f.L < I := hI ▸ X.F.ns.lt
  have lowB : ∀ p ∈ f.R ++ cs, p.1 < I := fun p hp => hI ▸ lt1 p hp
  have isFree : ∀ {x : Str}, (x, NameKind.free) ∈ scope.names → (x, NameKind.cell) ∉ scope.names := fun h1 h2 => by have := nd_fst ok.nd h1 h2; cases this
  have CEv : CE scope.names (relab f.names scope.names) env2 (I + 2) (cells.map (·.1)) (f.R ++ cs) fr ρ T :=
    { loc := rfl, kind := ok.kind, kindOf := kindOf
      db := fun x i k h => by
        obtain ⟨_, h1⟩ := lk_get h
        rw [Nat.sub_zero] at h1
        obtain ⟨k0, h2, _⟩ := relab_get h1
        have := List.all_eq_true.mp ok.db _ (List.mem_of_getElem? h2)
        simpa using this
      free := fun x i k mv h1 h2 h3 => by
        obtain ⟨g1, g2, v, a, o, g3, g4, g5, g6⟩ := free_loc fm ok X h1 h2 h3
        refine ⟨g2, v, a, o, g3, ?_, g5, g6⟩
        have hm := clOf_has (env := f.env) (acc := []) g1
        obtain ⟨a1, ha1⟩ := Option.isSome_iff_exists.mp (cellsFrom_some (x := x) scope.names (I + 2 + 1) (clOf f.env scope.names []) (.inr (lookup_some hm)))
        show (cellsFrom (I + 2 + 1) scope.names (clOf f.env scope.names [])).lookup x = some a
        rw [ha1]
        rcases cellsFrom_mem (lookup_mem ha1) with e | e
        · rcases clOf_mem e with e | ⟨_, e⟩
          · cases e
          · rw [g4] at e; rw [e]; rfl
        · exact absurd e (isFree g1)
      own := fun x hx => by
        obtain ⟨a, ha⟩ := Option.isSome_iff_exists.mp (cellsFrom_some (x := x) scope.names (I + 2 + 1) (clOf f.env scope.names []) (.inl (lookup_nd ok.nd hx)))
        refine ⟨a, ha, ?_⟩
        rcases hc2 x a (lookup_mem ha) with e | e
        · rcases clOf_mem e with e | ⟨e, _⟩
          · cases e
          · exact absurd hx (isFree e)
        · exact List.mem_map.mpr ⟨_, e, rfl⟩
      nd := by
        rw [List.nodup_cons]
        refine ⟨fun hq => ?_, hcnd⟩
        obtain ⟨p, hp, e⟩ := List.mem_map.mp hq
        have := (hc1 p hp).2
        rw [e] at this
        exact Nat.not_succ_le_self _ this }
  have caLow : ∀ a ∈ cells.map (·.1), I + 3 ≤ a := fun a ha => by
    obtain ⟨p, hp, rfl⟩ := List.mem_map.mp ha
    exact (hc1 p hp).2
  have offad : ∀ a, a < I + 2 → a ∉ (I + 2) :: cells.map (·.1) := fun a ha hq => by
    rcases List.mem_cons.mp hq with e | e
    · rw [e] at ha; exact Nat.lt_irrefl _ ha
    · have := caLow a e; exact Nat.lt_irrefl _ (Nat.lt_trans (Nat.lt_of_lt_of_le (Nat.lt_succ_self _) this) ha)
  have fm2 : ∀ RC oD oI, Lay (I + 2) (cells.map (·.1)) RC → Fm c (CF f m env2 (relab f.names scope.names) (I + 1) I (f.R ++ cs) RC oD oI) := fun RC oD oI2 hl =>
    { base := fm.base, hand := fm.hand, kind := ok.kind, glob := fm.glob, bi := fm.bi, bel := fm.bel, nms := kindOf
      lcs := by
        obtain ⟨oC, _, cs', rfl, _⟩ := hl
        exact .inr ⟨oC, .tail _ (.tail _ (.head _))⟩ }
  have dictNs : LCg.NsObj { cls := .type "dict", data := .dict #[] } (fun _ => none) := by
    obtain ⟨o, ho, hn⟩ := LCg.ns_obj (Heap.Ns.new s.heap (.type "dict"))
    rw [Heap.get?_push_size _ rfl] at ho
    obtain rfl := Option.some.inj ho
    exact hn
  have loop := comp_loop (elt := elt) (iter := iter) (scope := scope) (pos := pos) (s := s) (T := T) (R := RR (.ref (I + 1)) (I + 2)) rm sc (m := m) (env := env2) (names := relab f.names scope.names) (D := I + 1) (I := I) (base := f.R ++ cs) (ad := (I + 2) :: cells.map (·.1)) (Lay := Lay (I + 2) (cells.map (·.1)))
    (tgt := tgt (cEnv fr ρ)) (by show I + 2 ≠ f.L; exact Nat.ne_of_gt (Nat.lt_trans hLlt (Nat.lt_succ_of_lt (Nat.lt_succ_self _)))) fm2 (fun RC hl => hl.ad)
    ⟨Nat.succ_ne_self _, offad _ (Nat.lt_succ_self _), fun hq => by obtain ⟨p, hp, e⟩ := List.mem_map.mp hq; have := lowB p hp; rw [e] at this; exact Nat.not_succ_lt_self this⟩
    ⟨offad _ (Nat.lt_succ_of_lt (Nat.lt_succ_self _)), fun hq => by obtain ⟨p, hp, e⟩ := List.mem_map.mp hq; have := lowB p hp; rw [e] at this; exact Nat.lt_irrefl _ this⟩
    (fun p hp => offad _ (Nat.lt_trans (lowB p hp) (Nat.lt_succ_of_lt (Nat.lt_succ_self _)))) hT hE
    (fun i o v s1 Q hn hg hq => by obtain ⟨h1, fs, h2⟩ := hNx i o hn; exact letGo_ok hg h1 h2 hq)
    (fun i o hn => by obtain ⟨h1, fs, h2⟩ := hNx i o hn; exact (flds o fs h2).2) hitem hdone (hTg f env2 (I + 2) (cells.map (·.1)) (f.R ++ cs) ρ T m fm CEv) (K := K)
    (fun acc xs k RC T' H' h' tk hT' hv hl B hK => by
      obtain ⟨oC, m0, cs', rfl, hns, hca, _⟩ := hl
      obtain ⟨hn, B'⟩ := B.adopt (.head _) hv (R2 := (I + 2, oC) :: (f.R ++ cs)) fun p hp => by
        rcases List.mem_cons.mp hp with rfl | hp
        · exact ⟨.tail _ (.head _), Nat.succ_ne_self _⟩
        · exact ⟨.tail _ (List.mem_append_right _ hp), fun e => by have := lowB p hp; rw [e] at this; exact Nat.not_succ_lt_self this⟩
      exact hend (I + 1) (I + 2) oC m0 acc T' H' h' tk hT' hns (Nat.lt_succ_of_lt (Nat.lt_succ_self _)) B' hn hK)
    items [] T H { s with heap := h4 } [] [] 0 ((I + 2, { cls := .type "dict", data := .dict #[] }) :: cells) oI rfl (fun _ z => z) .nil (Nat.zero_le _) ⟨_, _, cells, rfl, dictNs, rfl, fun p hp => ⟨none, by rw [(hc1 p hp).1]⟩⟩ hNx0
    (B4.sub fun p hp => by
      rcases List.mem_cons.mp hp with rfl | hp
      · exact List.mem_append_right _ (.tail _ (.head _))
      · rcases List.mem_cons.mp hp with rfl | hp
        · exact List.mem_append_right _ (.tail _ (.tail _ (.head _)))
        · rcases List.mem_append.mp hp with hp | hp
          · rcases List.mem_cons.mp hp with rfl | hp
            · exact List.mem_append_right _ (.head _)
            · exact List.mem_append_left _ hp
          · exact List.mem_append_right _ (.tail _ (.tail _ (.tail _ hp)))) ⟨_, _, rfl⟩ q
  have gI : h4.get? I = some oI := (B4.get (List.mem_append_right _ (.tail _ (.tail _ (.head _))))).1
  rw [hD] at *
  exact codeAny_compStart_list loop (hpy _ _ _ gI loop)
end

set_option maxHeartbeats 800000

/-! a comprehension over a list, over a range -/
noncomputable def pCompL (fr : List (Option Nat)) (tgt : TG) (p : PT) (t : pTest) (e : PT) : Cl → List V → Hp → (List V → Hp → Prop) → Prop := fun C ρ H K => (∀ o ∈ fr, frB ρ o) ∧ p C ρ H fun v H => onList v H fun a vs => vs.length ≤ 100000 ∧ loopC (fun H => H a = some (.lst vs)) (tgt (cEnv fr ρ)) t e vs [] C H K
noncomputable def pCompR (fr : List (Option Nat)) (tgt : TG) (pa pb : PT) (t : pTest) (e : PT) : Cl → List V → Hp → (List V → Hp → Prop) → Prop := fun C ρ H K => (∀ o ∈ fr, frB ρ o) ∧ pa C ρ H fun u H => pb C ρ H fun v H => rgQ u v fun x y => loopC (fun _ => True) (tgt (cEnv fr ρ)) t e (rangeV x y) [] C H K
/-- a new list -/
noncomputable def newL (Q : QV) : List V → Hp → Prop := fun vs H => ∀ n, H n = none → Q (.ref n) (H.set n (.lst vs))

theorem Rd.sub2 {env : Env} {L : Addr} {m : Str → Option Value} {RC RC' : Led} {x : Str} {v : Value} (r : Rd env L m RC x v) (h : ∀ p ∈ RC, ((∃ u, p.2.data = .cell u) ∨ p.1 = env.locals) → p ∈ RC') : Rd env L m RC' x v := by
  rcases r with r | ⟨a, oC, m2, e, b⟩ | ⟨a, b, d, e1, e2, e3⟩
  · exact .inl r
  · exact .inr (.inl ⟨a, oC, m2, h _ e (.inr rfl), b⟩)
  · exact .inr (.inr ⟨a, b, d, e1, h _ e2 (.inl ⟨_, e3⟩), e3⟩)
theorem LocR.sub2 {names : Names} {env : Env} {L : Addr} {m : Str → Option Value} {RC RC' T : Led} {ρ : List V} (r : LocR names env L m RC T ρ) (h : ∀ p ∈ RC, ((∃ u, p.2.data = .cell u) ∨ p.1 = env.locals) → p ∈ RC') : LocR names env L m RC' T ρ :=
  fun x i k mv h1 h2 h3 h4 => let ⟨a, v, b, d⟩ := r x i k mv h1 h2 h3 h4; ⟨a, v, b, d.sub2 h⟩
/-- an address above all that the frame holds -/
noncomputable def Above (f : Fx) (a : Addr) : Prop := f.L < a ∧ ∀ p ∈ f.R, p.1 < a
theorem Above.locals {c : Cx} {f : Fx} {a : Addr} (h : Above f a) (fm : Fm c f) : f.env.locals ≠ a := fun e => by
  rcases fm.lcs with q | ⟨o, q⟩
  · have := h.1; rw [← q, e] at this; exact Nat.lt_irrefl _ this
  · have := h.2 _ q; rw [e] at this; exact Nat.lt_irrefl _ this
theorem nsObj_no {o : Obj} {m : Str → Option Value} (h : LCg.NsObj o m) : (∀ v, o.data ≠ .cell v) ∧ ∀ ws n, o ≠ tupObj ws n := by
  obtain ⟨es, ep, hd, _⟩ := h
  exact ⟨fun v e => (by rw [hd] at e; cases e), fun ws n e => (by subst e; cases hd)⟩
theorem Bs.toSt {c : Cx} {f : Fx} {T T' : Led} {ρ : List V} {H H' : Hp} {h h' : Heap} {m : Str → Option Value} {cs news : Led} {own : Own} {Cn : Addr} {oC : Obj} (X : Sx c f T ρ H h m cs news own) (hT : ∀ z ∈ T, z ∈ T') (B : Bs c f.g f.L m T' H' h' ((Cn, oC) :: (f.R ++ cs))) : St c (f.withR (Cn, oC)) T' ρ H' h' := by
  obtain ⟨news', own', F, N, r, z⟩ := B
  exact ⟨m, cs, news', own', F, N, r, (X.l.mono hT).sub2 fun p hp _ => .tail _ hp, X.k, z⟩
theorem St.dropC {c : Cx} {f : Fx} {T : Led} {ρ : List V} {H : Hp} {h h' : Heap} {Cn : Addr} {oC : Obj} {m' : Str → Option Value} (S : St c (f.withR (Cn, oC)) T ρ H h) (fm : Fm c f) (ab : Above f Cn) (hns : LCg.NsObj oC m') (hs : Heap.SameBut Cn h h') : St c f T ρ H h' := by
  obtain ⟨m, cs, news, own, X⟩ := S
  have B : Bs c f.g f.L m T H h ((Cn, oC) :: (f.R ++ cs)) := ⟨news, own, X.F, X.N, X.r, X.z⟩
  have hcs : ∀ p ∈ f.R ++ cs, p.1 ≠ Cn := fun p hp e => by
    rcases List.mem_append.mp hp with hp | hp
    · have := ab.2 p hp; rw [e] at this; exact Nat.lt_irrefl _ this
    · obtain ⟨⟨v, hv⟩, _⟩ := X.k.1 p hp
      have h1 := (X.r.R p (.tail _ (List.mem_append_right _ hp))).1
      have h2 := (X.r.R _ (.head _)).1
      have : p.2 = oC := nd_inj X.r.nd (show (Cn, p.2) ∈ news from e ▸ h1) h2
      exact (nsObj_no hns).1 v (this ▸ hv)
  obtain ⟨news', own', F, N, r, z⟩ := B.drop (R2 := f.R ++ cs) (.head _) (nsObj_no hns).2 (fun a x ha e => (hs.2 a ha).trans e) fun p hp => ⟨.tail _ hp, hcs p hp⟩
  refine ⟨m, cs, news', own', F, N, r, X.l.sub2 fun p hp hq => ?_, X.k, z⟩
  rcases List.mem_cons.mp hp with rfl | hp
  · rcases hq with ⟨u, hu⟩ | hq
    · exact absurd hu ((nsObj_no hns).1 u)
    · exact absurd hq.symm (ab.locals fm)
  · exact hp

/-- a comprehension's run -/
noncomputable def SComp (c : Cx) (names : Names) (elt : Expr) (gens : List Comprehension) (scope : Scope) (pos : Pos) (Pc : Cl → List V → Hp → (List V → Hp → Prop) → Prop) : Prop :=
  ∀ (f : Fx) d C, Fm c f → f.names = names → Room f.A d → SC c d C → ∀ T ρ H s (use : Option (Value → Sem Unit)) (K : List V → Hp → Prop) (Q : Value → Shared → Prop), St c f T ρ H s.heap → Pc C ρ H K →
    (∀ D Cn oC m' acc T' H' h' tk, (∀ z ∈ T, z ∈ T') → LCg.NsObj oC m' → Above f Cn → St c (f.withR (Cn, oC)) T' ρ (H'.set D (.lst acc)) h' → H' D = none → K acc H' →
      compPost c.M f.A noE use Q (.ref D) Cn (.ok .next) { s with heap := h', toks := tk }) →
    wpAny c.M f.A (comprehension (.ListComp elt gens scope pos) scope f.env (firstIterPos gens pos) (newList []) (firstAsync gens) (firstIter gens f.env) use) Q noE s
section
variable {c : Cx}
theorem rangeV_get {a b : Int} {i : Nat} {v : V} (h : (rangeV a b)[i]? = some v) : v = .int (a + (i : Nat)) ∧ i < (b - a).toNat := by
  unfold rangeV at h
  rw [List.getElem?_map] at h
  obtain ⟨j, hj, rfl⟩ := Option.map_eq_some_iff.mp h
  obtain ⟨h1, h2⟩ := List.getElem?_eq_some_iff.mp hj
  rw [List.length_range] at h1
  simp at h2
  subst h2
  exact ⟨rfl, h1⟩
theorem rangeV_none {a b : Int} {i : Nat} (h : (rangeV a b)[i]? = none) : (b - a).toNat ≤ i := by
  unfold rangeV at h
  rw [List.getElem?_map, Option.map_eq_none_iff, List.getElem?_eq_none_iff] at h
  simpa using h
theorem Sx.above {f : Fx} {T : Led} {ρ : List V} {H : Hp} {h : Heap} {m : Str → Option Value} {cs news : Led} {own : Own} (X : Sx c f T ρ H h m cs news own) {a : Addr} (ha : h.objs.size < a) : Above f a :=
  ⟨Nat.lt_trans X.F.ns.lt ha, fun p hp => Nat.lt_trans (Heap.lt_size (X.N p (X.r.R p (List.mem_append_left _ hp)).1).1) ha⟩
theorem SComp_L {names : Names} {elt target iter : Expr} {ifs : List Expr} {scope : Scope} {pos : Pos} {fr : List (Option Nat)} {tgt : TG} {Pi Pe : PT} {Pt : pTest} (ok : CompOk names scope fr) (hi : SE c names iter Pi) (hT : SBF c (relab names scope.names) ifs Pt)
    (hE : SE c (relab names scope.names) elt Pe) (hTg : TgtOk c scope.names (relab names scope.names) fr target tgt) (hs : ∀ env x, foldedSetIterable iter env x = pure x) :
    SComp c names elt [⟨target, iter, ifs, 0⟩] scope pos (pCompL fr tgt Pi Pt Pe) := by
  intro f d C fm hn rm sc T ρ H s use K Q S q hend
  subst hn
  obtain ⟨hfr, q⟩ := q
  have hlk : ∀ x ∈ scope.names, x.2 = .local → scope.names.lookup x.1 = some .local := fun x hx e => by have := lookup_nd ok.nd (show (x.1, x.2) ∈ scope.names from hx); rw [this, e]
  refine wpAny_comprehension_free rfl (hs f.env) (closure_ok (frees_bound fm ok S hfr)) ok.kind hlk ?_
  refine hi f d C fm rfl rm sc T ρ H s _ _ S q fun v y T1 H1 h1 tk1 hT1 hv S1 q1 => ?_
  obtain ⟨a, vs, rfl, rfl, ea, hlen, q2⟩ := onList_out hv q1
  obtain ⟨ws, n, g2, g3⟩ := S1.lst ea
  refine wpAny_pyIter_list (isList_of g2) ?_
  obtain ⟨m, cs, news, own, X⟩ := S1
  have hal : a < h1.objs.size := Heap.lt_size g2
  have lst_of : ∀ {T H hh R}, Bs c f.g f.L m T H hh R → H a = some (.lst vs) → ∃ ws n, hh.get? a = some (listOf ws.toArray n) ∧ VRs T vs ws := fun B e => by
    obtain ⟨news, own, F, N, r, z⟩ := B
    obtain ⟨_, ws, n, e1, e2⟩ := r.obj a _ e
    exact ⟨ws, n, (N _ e1).1, e2⟩
  refine comp_body (s := { s with heap := h1, toks := tk1 }) (Nx := fun i o => o.cls = .type "list_iterator" ∧ o.data = .fields #[.ref a, .int (i : Nat) 0]) (oI := { cls := .type "list_iterator", data := .fields #[.ref a, .int 0 0] })
    (items := vs) (G := fun H => H a = some (.lst vs)) (K := K) (RR := fun acc Cn => compPost c.M f.A noE use Q acc Cn) fm rm sc ok hT hE hTg X rfl (fun i o h => ⟨.inl h.1, _, h.2⟩) ⟨rfl, rfl⟩ ?_ ?_ ?_ q2 ?_
  · rintro i o mv s1 T2 H2 Q2 R2 ⟨oc, od⟩ go hG hi2 B k
    obtain ⟨ws2, n2, g5, g6⟩ := lst_of B hG
    obtain ⟨y, hy, hvy⟩ := g6.get hi2
    refine wpAny_pyNext_list_item (l := a) (i := i) (x := y) ⟨o, go, oc, od⟩ (isList_of g5) (by simpa using hy) fun h5 hit5 hs5 => ?_
    obtain ⟨o5, go5, oc5, od5⟩ := hit5
    exact k h5 o5 s1.toks y hvy ⟨oc5, od5⟩ go5 hs5
  · rintro i o s1 T2 H2 Q2 R2 ⟨oc, od⟩ go hG hi2 B k
    obtain ⟨ws2, n2, g5, g6⟩ := lst_of B hG
    refine wpAny_pyNext_list_end (l := a) (i := i) fm.hand ⟨o, go, oc, od⟩ (isList_of g5) ?_ fun h5 he5 => k h5 fun b x hb e => he5 b x hb e
    have := g6.length
    rw [List.getElem?_eq_none_iff] at hi2
    simp; omega
  · intro s1 Q2 E2 g5 k
    exact wpAny_pyIter_listiter (l := a) (i := 0) ⟨_, g5, rfl, rfl⟩ k
  · intro D Cn oC m' acc T' H' h' tk hT' hns hlt B hD hK
    exact hend D Cn oC m' acc T' H' h' tk (fun z hz => hT' z (hT1 z hz)) hns (X.above hlt) (Bs.toSt X hT' B) hD hK
theorem SComp_R {names : Names} {elt target iter : Expr} {ifs : List Expr} {scope : Scope} {pos : Pos} {fr : List (Option Nat)} {tgt : TG} {Pa Pb Pe : PT} {Pt : pTest} (ok : CompOk names scope fr) (hi : SRg c names iter Pa Pb) (hT : SBF c (relab names scope.names) ifs Pt)
    (hE : SE c (relab names scope.names) elt Pe) (hTg : TgtOk c scope.names (relab names scope.names) fr target tgt) (hs : ∀ env x, foldedSetIterable iter env x = pure x) :
    SComp c names elt [⟨target, iter, ifs, 0⟩] scope pos (pCompR fr tgt Pa Pb Pt Pe) := by
  intro f d C fm hn rm sc T ρ H s use K Q S q hend
  subst hn
  obtain ⟨hfr, q⟩ := q
  have hlk : ∀ x ∈ scope.names, x.2 = .local → scope.names.lookup x.1 = some .local := fun x hx e => by have := lookup_nd ok.nd (show (x.1, x.2) ∈ scope.names from hx); rw [this, e]
  refine wpAny_comprehension_free rfl (hs f.env) (closure_ok (frees_bound fm ok S hfr)) ok.kind hlk ?_
  refine hi f d C fm rfl rm sc T ρ H s _ (fun x y H => loopC (fun _ => True) (tgt (cEnv fr ρ)) Pt Pe (rangeV x y) [] C H K) S q fun lo hi T1 H1 h1 tk1 r t u w hT1 S1 hr hok q2 => ?_
  simp only [rangeOk, Bool.and_eq_true, decide_eq_true_eq] at hok
  refine wpAny_pyIter_range hr (small_one (by omega) (by omega) (by omega) (by omega)) ?_
  rw [rangeSize_nat]
  obtain ⟨m, cs, news, own, X⟩ := S1
  refine comp_body (s := { s with heap := h1, toks := tk1 }) (Nx := fun i o => i ≤ (hi - lo).toNat ∧ o = { cls := .type "range_iterator", data := .fields #[rawInt (lo + (i : Nat)), rawInt (((hi - lo).toNat : Nat) - (i : Nat) : Int), rawInt 1] }) (oI := { cls := .type "range_iterator", data := .fields #[rawInt lo, rawInt (((hi - lo).toNat : Nat) : Int), rawInt 1] })
    (items := rangeV lo hi) (G := fun _ => True) (K := K) (RR := fun acc Cn => compPost c.M f.A noE use Q acc Cn) fm rm sc ok hT hE hTg X rfl (fun i o h => by rw [h.2]; exact ⟨.inr rfl, _, rfl⟩) ⟨Nat.zero_le _, by simp⟩ ?_ ?_ ?_ q2 ?_
  · rintro i o mv s1 T2 H2 Q2 R2 ⟨hle, rfl⟩ go hG hi2 B k
    obtain ⟨rfl, hlt⟩ := rangeV_get hi2
    refine wpAny_pyNext_range_item (it := h1.objs.size) (x := lo + (i : Nat)) (left := (((hi - lo).toNat : Nat) - (i : Nat) : Int)) (step := 1) go (by omega) fun h5 hit5 hs5 => ?_
    refine k h5 _ _ _ (.int _ _) ⟨hlt, rfl⟩ ?_ hs5
    have e1 : lo + (i : Int) + 1 = lo + ((i + 1 : Nat) : Int) := by push_cast; omega
    have e2 : (((hi - lo).toNat : Nat) - (i : Nat) : Int) - 1 = (((hi - lo).toNat : Nat) - ((i + 1 : Nat) : Int)) := by push_cast; omega
    rw [← e1, ← e2]
    exact hit5
  · rintro i o s1 T2 H2 Q2 R2 ⟨hle, rfl⟩ go hG hi2 B k
    have := rangeV_none hi2
    exact wpAny_pyNext_range_end (it := h1.objs.size) (x := lo + (i : Nat)) (left := (((hi - lo).toNat : Nat) - (i : Nat) : Int)) (step := 1) fm.hand go (by omega) fun h5 he5 => k h5 fun b x hb e => he5 b x hb e
  · intro s1 Q2 E2 g5 k
    exact (Walks.range (prog := c.prog) (w := c.w) (A := f.A) fm.hand h1.objs.size lo 1 (hi - lo).toNat).self 0 s1 Q2 E2 (by show IsRangeIter _ _ _ _ _; simpa using g5) k
  · intro D Cn oC m' acc T' H' h' tk hT' hns hlt B hD hK
    exact hend D Cn oC m' acc T' H' h' tk (fun z hz => hT' z (hT1 z hz)) hns (X.above hlt) (Bs.toSt X hT' B) hD hK
theorem SE_comp {names : Names} {elt : Expr} {gens : List Comprehension} {scope : Scope} {pos : Pos} {Pc : Cl → List V → Hp → (List V → Hp → Prop) → Prop} (h : SComp c names elt gens scope pos Pc) :
    SE c names (.ListComp elt gens scope pos) (fun C ρ H Q => Pc C ρ H (newL Q)) := by
  intro f d C fm hn rm sc T ρ H s Qm Q S q p
  rw [eval_ListComp]
  refine h f d C fm hn rm sc T ρ H s none _ Q S q fun D Cn oC m' acc T' H' h' tk hT hns ab S' hD hK => ?_
  obtain ⟨mm, cs, news, own, X⟩ := id S'
  refine ⟨m', hns.ns (X.N _ (X.r.R _ (.head _)).1).1, fun h'' hs'' => ?_⟩
  exact p (.ref D) (.ref D) T' _ h'' tk hT (.ref D) (S'.dropC fm ab hns hs'') (hK D hD)
end

set_option maxHeartbeats 800000

section
variable {c : Cx} {f : Fx} {T : Led} {ρ : List V} {H : Hp} {s : Shared}
theorem SE_neg {names : Names} {i : Int} {k : Nat} {p pos : Pos} : SE c names (.UnaryOp .USub (.Constant (.int i) k p) pos) (pVal (.int (-i))) := by
  intro f d C fm hn rm sc T ρ H s Qm Q S q p'
  exact wpAny_UnaryOp (wpAny_Constant_int (P.neg_int (p' (.int (-i)) _ T H s.heap _ (fun _ z => z) (.int _ _) S q)))

/-! and, or of two truth values, as a value -/
noncomputable def pAndV (a b : PT) : PT := fun C ρ H Q => a C ρ H fun v H => match v with | .bool true => b C ρ H Q | .bool false => Q (.bool false) H | _ => False
noncomputable def pOrV (a b : PT) : PT := fun C ρ H Q => a C ρ H fun v H => match v with | .bool true => Q (.bool true) H | .bool false => b C ρ H Q | _ => False
theorem SE_and {names : Names} {e e' : Expr} {pos : Pos} {Pe Pe' : PT} (h : SE c names e Pe) (h' : SE c names e' Pe') : SE c names (.BoolOp .And [e, e'] pos) (pAndV Pe Pe') := by
  intro f d C fm hn rm sc T ρ H s Qm Q S q p
  refine BoolOp_and (h f d C fm hn rm sc T ρ H s _ _ S q fun v x T1 H1 h1 tk1 hT1 hv S1 q1 => ?_)
  induction hv using VR.casesOn <;> try exact q1.elim
  rename_i b
  refine wpAny_truthy_bool ?_
  cases b with
  | true => exact BoolOp_one (h' f d C fm hn rm sc T1 ρ H1 _ _ _ S1 q1 (p.from hT1 fun _ _ z => z))
  | false => exact p (.bool false) _ T1 H1 h1 tk1 hT1 (.bool false) S1 q1
theorem SE_or {names : Names} {e e' : Expr} {pos : Pos} {Pe Pe' : PT} (h : SE c names e Pe) (h' : SE c names e' Pe') : SE c names (.BoolOp .Or [e, e'] pos) (pOrV Pe Pe') := by
  intro f d C fm hn rm sc T ρ H s Qm Q S q p
  refine BoolOp_or (h f d C fm hn rm sc T ρ H s _ _ S q fun v x T1 H1 h1 tk1 hT1 hv S1 q1 => ?_)
  induction hv using VR.casesOn <;> try exact q1.elim
  rename_i b
  refine wpAny_truthy_bool ?_
  cases b with
  | true => exact p (.bool true) _ T1 H1 h1 tk1 hT1 (.bool true) S1 q1
  | false => exact BoolOp_one (h' f d C fm hn rm sc T1 ρ H1 _ _ _ S1 q1 (p.from hT1 fun _ _ z => z))
/-! or of more than two tests -/
theorem SB_ors {names : Names} {e e' : Expr} {r : List Expr} {pos : Pos} {Pe Pe' : pTest} (h : SB c names e Pe) (h' : SB c names (.BoolOp .Or (e' :: r) pos) Pe') : SB c names (.BoolOp .Or (e :: e' :: r) pos) (tOr Pe Pe') := by
  intro f d C fm hn rm sc T ρ H s Qm Q S q p
  refine isTrue_or (h f d C fm hn rm sc T ρ H s _ _ S q fun b T1 H1 h1 tk1 hT1 S1 q1 => ?_)
  induction b using Bool.casesOn with
  | true => exact p _ T1 H1 h1 tk1 hT1 S1 q1
  | false =>
    have := h' f d C fm hn rm sc T1 ρ H1 { s with heap := h1, toks := tk1 } Qm Q S1 q1 (p.from hT1 fun _ _ z => z)
    exact this
/-! a chain of two comparisons -/
theorem SB_chain {names : Names} {l r r' : Expr} {op op' : CmpOp} {pos : Pos} {B B' : V → V → Hp → Option Bool} {Pl Pr Pr' : PT} (hl : SE c names l Pl) (hr : SE c names r Pr) (hr' : SE c names r' Pr') (ho : SCmp c op B) (ho' : SCmp c op' B')
    (hm : lastMarks [op, op'] [r, r'] = false) : SB c names (.Compare l [op, op'] [r, r'] pos) (tChain B B' Pl Pr Pr') := by
  intro f d C fm hn rm sc T ρ H s Qm Q S q p
  refine isTrue_chain (hl f d C fm hn rm sc T ρ H s _ _ S q fun a x T1 H1 h1 tk1 hT1 ha S1 q1 => ?_) hm
  refine test_link (hr f d C fm hn rm sc T1 ρ H1 _ _ _ S1 q1 fun b y T2 H2 h2 tk2 hT2 hb S2 q2 => ?_)
  split at q2
  · rename_i e
    refine ho f fm (rm.le (Nat.zero_le _)) T2 ρ H2 _ _ a b x y true S2 (ha.mono hT2) hb e fun h3 tk3 S3 => wpAny_truthy_bool ?_
    refine test_last (hr' f d C fm hn rm sc T2 ρ H2 _ _ _ S3 q2 fun z w T4 H4 h4 tk4 hT4 hz S4 q4 => ?_)
    split at q4
    · rename_i v e'
      exact ho' f fm (rm.le (Nat.zero_le _)) T4 ρ H4 _ _ b z y w v S4 (hb.mono hT4) hz e' fun h5 tk5 S5 => wpAny_truthy_bool (p v T4 H4 h5 tk5 (fun u hu => hT4 u (hT2 u (hT1 u hu))) S5 q4)
    · exact q4.elim
  · rename_i e
    refine ho f fm (rm.le (Nat.zero_le _)) T2 ρ H2 _ _ a b x y false S2 (ha.mono hT2) hb e fun h3 tk3 S3 => wpAny_truthy_bool ?_
    exact p false T2 H2 h3 tk3 (fun u hu => hT2 u (hT1 u hu)) S3 q2
  · exact q2.elim
end

noncomputable def tops (k : Nat) : Stmt := PySem.Challenge.pw_sj0201_02.main.body.getD k (.Pass ⟨0, 0, 0, 0⟩)
noncomputable def subs (k j : Nat) : Stmt := match tops k with
  | .ClassDef _ _ _ b _ _ _ _ _ _ _ => b.getD j (.Pass ⟨0, 0, 0, 0⟩)
  | x => x
noncomputable def fdB : Stmt → List Stmt
  | .FunctionDef _ _ b _ _ _ _ _ _ _ => b
  | _ => []
noncomputable def fdN : Stmt → Names
  | .FunctionDef _ _ _ _ _ _ s _ _ _ => s.names
  | _ => []
noncomputable def pComp (p : Cl → List V → Hp → (List V → Hp → Prop) → Prop) : PT := fun C ρ H Q => p C ρ H (newL Q)
noncomputable def sComp (i : Nat) (p : Cl → List V → Hp → (List V → Hp → Prop) → Prop) : ST := fun C ρ H Q => p C ρ H (newL fun v H => Q .next (ρ.set i v) H)
noncomputable def GS (c : Cx) (x : Str) (mv : V) : Prop := ∃ v, c.mg x = some v ∧ VR c.T0 mv v
theorem SE_gv {c : Cx} {names : Names} {x : Str} {pos : Pos} {i : Nat} {mv : V} (hl : lk x names 0 = some (i, .globalImplicit)) (h : GS c x mv) (hd : (x == ("__debug__" : Str)) = false) : SE c names (.Name x pos) (pVal mv) := by
  obtain ⟨v, h1, h2⟩ := h
  exact SE_glob hl h1 h2 hd
theorem SE_strL {c : Cx} {names : Names} {x : Str} {k : Nat} {pos : Pos} {l : List Nat} (h : x.cps.toList = l) : SE c names (.Constant (.str x) k pos) (pVal (.str l)) := by
  subst h; exact SE_str
theorem SE_intV {c : Cx} {names : Names} {i : Int} {k : Nat} {pos : Pos} : SE c names (.Constant (.int i) k pos) (pVal (.int i)) := SE_int
theorem SE_boolV {c : Cx} {names : Names} {i : Bool} {k : Nat} {pos : Pos} : SE c names (.Constant (.bool i) k pos) (pVal (.bool i)) := SE_bool
theorem SE_noneV {c : Cx} {names : Names} {k : Nat} {pos : Pos} : SE c names (.Constant .none k pos) (pVal .none) := SE_none
theorem SSs_drop {c : Cx} {names : Names} {b : List Stmt} {d : Stmt} {k : Nat} {P Q : ST} (hk : k < b.length) (h : SS c names (b.getD k d) P) (hs : SSs c names (b.drop (k + 1)) Q) : SSs c names (b.drop k) (sCons P Q) := by
  rw [List.drop_eq_getElem_cons hk]
  refine SSs_cons ?_ hs
  have e : b.getD k d = b[k] := by simp [List.getD, hk]
  rwa [← e]
theorem SSs_all {c : Cx} {names : Names} {b : List Stmt} {P : ST} (h : SSs c names (b.drop 0) P) : SSs c names b P := h
theorem SSs_dropEnd {c : Cx} {names : Names} {b : List Stmt} {k : Nat} (hk : b.length ≤ k) : SSs c names (b.drop k) sNil := by
  rw [List.drop_eq_nil_of_le hk]
  exact SSs_nil
structure Gl (c : Cx) : Prop where
  v_ABORT : GS c "ABORT" (V.str [97, 98, 111, 114, 116])
  v_ALONE : GS c "ALONE" (V.tup [V.str [102, 101, 110, 99, 101], V.str [102, 97, 105, 108], V.str [97, 98, 111, 114, 116], V.str [115, 117, 99, 99, 101, 101, 100]])
  v_ASK : GS c "ASK" (V.str [97, 115, 107])
  v_CLOSING : GS c "CLOSING" (V.str [41])
  v_DONE : GS c "DONE" (V.str [100, 111, 110, 101])
  v_EMIT : GS c "EMIT" (V.str [101, 109, 105, 116])
  v_FAIL : GS c "FAIL" (V.str [102, 97, 105, 108])
  v_FAILED : GS c "FAILED" (V.int 1)
  v_FENCE : GS c "FENCE" (V.str [102, 101, 110, 99, 101])
  v_GAIN : GS c "GAIN" (V.str [103, 97, 105, 110])
  v_JUMP : GS c "JUMP" (V.str [106, 117, 109, 112])
  v_MARK : GS c "MARK" (V.str [109, 97, 114, 107])
  v_MEET : GS c "MEET" (V.str [109, 101, 101, 116])
  v_MET : GS c "MET" (V.int 0)
  v_NAME : GS c "NAME" (V.str [110, 97, 109, 101])
  v_ONE : GS c "ONE" (V.str [111, 110, 101])
  v_OPEN : GS c "OPEN" (V.str [111, 112, 101, 110])
  v_OPENING : GS c "OPENING" (V.str [40])
  v_OVER : GS c "OVER" (V.int 2)
  v_PLACE : GS c "PLACE" (V.str [112, 108, 97, 99, 101])
  v_PUT : GS c "PUT" (V.str [112, 117, 116])
  v_SET : GS c "SET" (V.str [115, 101, 116])
  v_SHUT : GS c "SHUT" (V.str [115, 104, 117, 116])
  v_SINGLE : GS c "SINGLE" (V.tup [V.str [99, 104, 97, 114, 115], V.str [108, 101, 110], V.str [112, 111, 115], V.str [114, 112, 111, 115], V.str [116, 97, 98], V.str [114, 116, 97, 98], V.str [97, 110, 121], V.str [110, 111, 116, 97, 110, 121], V.str [115, 112, 97, 110], V.str [98, 114, 101, 97, 107], V.str [114, 101, 109]])
  v_SPLIT : GS c "SPLIT" (V.str [115, 112, 108, 105, 116])
  v_SUCCEED : GS c "SUCCEED" (V.str [115, 117, 99, 99, 101, 101, 100])
  v_WAYS : GS c "WAYS" (V.str [119, 97, 121, 115])
  f_Match : c.mg "Match" = some (.ref 526) ∧ keepIn c.K (.ref 526) = true
  f_NameRef : c.mg "NameRef" = some (.ref 208) ∧ keepIn c.K (.ref 208) = true
  f_PatternCode : c.mg "PatternCode" = some (.ref 94) ∧ keepIn c.K (.ref 94) = true
  f_PlainHost : c.mg "PlainHost" = some (.ref 589) ∧ keepIn c.K (.ref 589) = true
  f_Way : c.mg "Way" = some (.ref 449) ∧ keepIn c.K (.ref 449) = true
  f__law_counted : c.mg "_law_counted" = some (.ref 624) ∧ keepIn c.K (.ref 624) = true
  f__law_one : c.mg "_law_one" = some (.ref 607) ∧ keepIn c.K (.ref 607) = true
  f__law_part : c.mg "_law_part" = some (.ref 614) ∧ keepIn c.K (.ref 614) = true
  f__law_pick : c.mg "_law_pick" = some (.ref 600) ∧ keepIn c.K (.ref 600) = true
  f__law_series : c.mg "_law_series" = some (.ref 619) ∧ keepIn c.K (.ref 619) = true
  f_any_at : c.mg "any_at" = some (.ref 355) ∧ keepIn c.K (.ref 355) = true
  f_arb_ends : c.mg "arb_ends" = some (.ref 390) ∧ keepIn c.K (.ref 390) = true
  f_bal_end : c.mg "bal_end" = some (.ref 397) ∧ keepIn c.K (.ref 397) = true
  f_bal_ends : c.mg "bal_ends" = some (.ref 404) ∧ keepIn c.K (.ref 404) = true
  f_chars_end : c.mg "chars_end" = some (.ref 306) ∧ keepIn c.K (.ref 306) = true
  f_compile_pattern : c.mg "compile_pattern" = some (.ref 112) ∧ keepIn c.K (.ref 112) = true
  f_ends_of : c.mg "ends_of" = some (.ref 425) ∧ keepIn c.K (.ref 425) = true
  f_is_plain_text : c.mg "is_plain_text" = some (.ref 30) ∧ keepIn c.K (.ref 30) = true
  f_len_end : c.mg "len_end" = some (.ref 313) ∧ keepIn c.K (.ref 313) = true
  f_match_compiled : c.mg "match_compiled" = some (.ref 551) ∧ keepIn c.K (.ref 551) = true
  f_match_orders : c.mg "match_orders" = some (.ref 544) ∧ keepIn c.K (.ref 544) = true
  f_named_rows : c.mg "named_rows" = some (.ref 537) ∧ keepIn c.K (.ref 537) = true
  f_notany_at : c.mg "notany_at" = some (.ref 362) ∧ keepIn c.K (.ref 362) = true
  f_one_end : c.mg "one_end" = some (.ref 411) ∧ keepIn c.K (.ref 411) = true
  f_plain_end : c.mg "plain_end" = some (.ref 418) ∧ keepIn c.K (.ref 418) = true
  f_pos_end : c.mg "pos_end" = some (.ref 320) ∧ keepIn c.K (.ref 320) = true
  f_rem_end : c.mg "rem_end" = some (.ref 348) ∧ keepIn c.K (.ref 348) = true
  f_row_of : c.mg "row_of" = some (.ref 23) ∧ keepIn c.K (.ref 23) = true
  f_straightened : c.mg "straightened" = some (.ref 105) ∧ keepIn c.K (.ref 105) = true
  f_tab_end : c.mg "tab_end" = some (.ref 334) ∧ keepIn c.K (.ref 334) = true
  f_with_texts_joined : c.mg "with_texts_joined" = some (.ref 37) ∧ keepIn c.K (.ref 37) = true
  b_abs : c.mg "abs" = none ∧ c.mb "abs" = some (.builtin "abs")
  b_int : c.mg "int" = none ∧ c.mb "int" = some (.type "int")
  b_isinstance : c.mg "isinstance" = none ∧ c.mb "isinstance" = some (.builtin "isinstance")
  b_len : c.mg "len" = none ∧ c.mb "len" = some (.builtin "len")
  b_list : c.mg "list" = none ∧ c.mb "list" = some (.type "list")
  b_range : c.mg "range" = none ∧ c.mb "range" = some (.type "range")
  b_str : c.mg "str" = none ∧ c.mb "str" = some (.type "str")
  b_sum : c.mg "sum" = none ∧ c.mb "sum" = some (.builtin "sum")
  b_tuple : c.mg "tuple" = none ∧ c.mb "tuple" = some (.type "tuple")

noncomputable def T_row_of_1 : pTest := (tCmp (bLt .Gt) (pBlt bLen (pCons (pLoc 3) pNil)) (pVal (V.int 0)))
noncomputable def B_row_of_2 : ST := (sCons (sAsg 4 (pLm bPop (pLoc 3) pNil))
    (sCons (sIf (tCmp bEq (pOp2 bIdx (pLoc 4) (pVal (V.int 0))) (pLoc 1)) (sCons (sExp (pLm bExtend (pLoc 3) (pCons (pList (pCons (pOp2 bIdx (pLoc 4) (pVal (V.int 2))) (pCons (pOp2 bIdx (pLoc 4) (pVal (V.int 1))) pNil))) pNil)))
    sNil) (sCons (sExp (pLm bAppend (pLoc 2) (pCons (pLoc 4) pNil)))
    sNil))
    sNil))
noncomputable def P_row_of : ST := (sCons (sSwap 2 3 (pTup (pCons (pList pNil) (pCons (pList (pCons (pLoc 0) pNil)) pNil))))
    (sCons (sWhile T_row_of_1 B_row_of_2)
    (sCons (sRet (pLoc 2))
    sNil)))
set_option maxHeartbeats 4000000 in
theorem S_row_of {c : Cx} (hG : Gl c) : SSs c (fdN (tops 23)) (fdB (tops 23)) P_row_of := by
  refine SSs_cons ?_ ?_
  refine SS_swap (i := 2) (j := 3) ?_ ?_ ?_ ?_ ?_ ?_ ?_
  refine SE_tup ?_
  refine SL_cons ?_ ?_ ?_
  refine SE_list ?_
  exact SL_nil
  refine SL_cons ?_ ?_ ?_
  refine SE_list ?_
  refine SL_cons ?_ ?_ ?_
  exact (SE_loc (i := 0) (k := .local) rfl nofun)
  exact SL_nil
  exact rfl
  exact SL_nil
  exact rfl
  exact rfl
  exact rfl
  exact rfl
  exact rfl
  exact rfl
  exact rfl
  exact (swap_two rfl rfl rfl rfl rfl rfl)
  refine SSs_cons ?_ ?_
  refine SS_while ?_ ?_
  refine SB_cmp ?_ ?_ ?_ ?_
  refine SE_blt (i := 5) (fv := .builtin "len") ?_ ?_ ?_ ?_ ?_ ?_ ?_ ?_
  exact rfl
  exact hG.b_len.1
  exact hG.b_len.2
  exact SC_len
  refine SL_cons ?_ ?_ ?_
  exact (SE_loc (i := 3) (k := .local) rfl nofun)
  exact SL_nil
  exact rfl
  exact rfl
  exact rfl
  exact (.inl ⟨_, rfl⟩)
  exact SE_intV
  exact (SCmp_lt .Gt)
  exact rfl
  refine SSs_cons ?_ ?_
  refine SS_asg (i := 4) (k := .local) ?_ ?_ ?_ ?_ ?_
  refine SE_lm (id := "list.pop") ?_ ?_ ?_ ?_ ?_ ?_ ?_
  exact (SE_loc (i := 3) (k := .local) rfl nofun)
  exact SL_nil
  exact SC_pop
  exact PySem.F.slot_list_pop
  exact PySem.F.type_list_pop
  exact (fun _ => rfl)
  exact rfl
  exact rfl
  exact (.inl rfl)
  exact rfl
  exact (.inl rfl)
  refine SSs_cons ?_ ?_
  refine SS_if ?_ ?_ ?_
  refine SB_cmp ?_ ?_ ?_ ?_
  refine SE_sub ?_ ?_ ?_
  exact (SE_loc (i := 4) (k := .local) rfl nofun)
  exact SE_intV
  exact rfl
  exact (SE_loc (i := 1) (k := .local) rfl nofun)
  exact SCmp_eq
  exact rfl
  refine SSs_cons ?_ ?_
  refine SS_exp ?_ ?_
  refine SE_lm (id := "list.extend") ?_ ?_ ?_ ?_ ?_ ?_ ?_
  exact (SE_loc (i := 3) (k := .local) rfl nofun)
  refine SL_cons ?_ ?_ ?_
  refine SE_list ?_
  refine SL_cons ?_ ?_ ?_
  refine SE_sub ?_ ?_ ?_
  exact (SE_loc (i := 4) (k := .local) rfl nofun)
  exact SE_intV
  exact rfl
  refine SL_cons ?_ ?_ ?_
  refine SE_sub ?_ ?_ ?_
  exact (SE_loc (i := 4) (k := .local) rfl nofun)
  exact SE_intV
  exact rfl
  exact SL_nil
  exact rfl
  exact rfl
  exact SL_nil
  exact rfl
  exact SC_extend
  exact PySem.F.slot_list_extend
  exact PySem.F.type_list_extend
  exact (fun _ => rfl)
  exact rfl
  exact rfl
  exact SSs_nil
  refine SSs_cons ?_ ?_
  refine SS_exp ?_ ?_
  refine SE_lm (id := "list.append") ?_ ?_ ?_ ?_ ?_ ?_ ?_
  exact (SE_loc (i := 2) (k := .local) rfl nofun)
  refine SL_cons ?_ ?_ ?_
  exact (SE_loc (i := 4) (k := .local) rfl nofun)
  exact SL_nil
  exact rfl
  exact SC_append
  exact PySem.F.slot_list_append
  exact PySem.F.type_list_append
  exact (fun _ => rfl)
  exact rfl
  exact rfl
  exact SSs_nil
  exact SSs_nil
  refine SSs_cons ?_ ?_
  refine SS_ret ?_
  exact (SE_loc (i := 2) (k := .local) rfl nofun)
  exact SSs_nil

noncomputable def P_is_plain_text : ST := (sCons (sRet (pAndV (pOfT (tCmp bEq (pOp2 bIdx (pLoc 0) (pVal (V.int 0))) (pVal (V.str [99, 104, 97, 114, 115])))) (pIsi bIsiStr (pOp2 bIdx (pLoc 0) (pVal (V.int 1))))))
    sNil)
set_option maxHeartbeats 4000000 in
theorem S_is_plain_text {c : Cx} (hG : Gl c) : SSs c (fdN (tops 24)) (fdB (tops 24)) P_is_plain_text := by
  refine SSs_cons ?_ ?_
  refine SS_ret ?_
  refine SE_and ?_ ?_
  refine SE_cmp ?_ ?_ ?_ ?_
  refine SE_sub ?_ ?_ ?_
  exact (SE_loc (i := 0) (k := .local) rfl nofun)
  exact SE_intV
  exact rfl
  exact (SE_strL (l := [99, 104, 97, 114, 115]) rfl)
  exact SCmp_eq
  exact rfl
  refine SE_isi (i := 1) (j := 2) (Tn := "str") ?_ ?_ ?_ ?_ ?_ ?_ ?_ ?_ ?_ ?_ ?_
  exact rfl
  exact hG.b_isinstance.1
  exact hG.b_isinstance.2
  exact rfl
  exact hG.b_str.1
  exact hG.b_str.2
  exact isiOk_str
  refine SE_sub ?_ ?_ ?_
  exact (SE_loc (i := 0) (k := .local) rfl nofun)
  exact SE_intV
  exact rfl
  exact rfl
  exact rfl
  exact rfl
  exact SSs_nil

noncomputable def B_with_texts_joined_1 : ST := (sCons (sIf (tOfP (pCall 30 (pCons (pLoc 2) pNil))) (sCons (sIf (tCmp bEq (pOp2 bIdx (pLoc 2) (pVal (V.int 1))) (pVal (V.str []))) (sCons sCont
    sNil) sNil)
    (sCons (sIf (tAnd (tCmp (bLt .Gt) (pBlt bLen (pCons (pLoc 1) pNil)) (pVal (V.int 0))) (tOfP (pCall 30 (pCons (pOp2 bIdx (pLoc 1) (pOp2 (bAr .Sub) (pBlt bLen (pCons (pLoc 1) pNil)) (pVal (V.int 1)))) pNil)))) (sCons (sAsg 2 (pTup (pCons (pVal (V.str [99, 104, 97, 114, 115])) (pCons (pOp2 (bAr .Add) (pOp2 bIdx (pLm bPop (pLoc 1) pNil) (pVal (V.int 1))) (pOp2 bIdx (pLoc 2) (pVal (V.int 1)))) pNil))))
    sNil) sNil)
    sNil)) sNil)
    (sCons (sExp (pLm bAppend (pLoc 1) (pCons (pLoc 2) pNil)))
    sNil))
noncomputable def P_with_texts_joined : ST := (sCons (sAsg 1 (pList pNil))
    (sCons (sFor 2 (pLoc 0) B_with_texts_joined_1)
    (sCons (sRet (pLoc 1))
    sNil)))
set_option maxHeartbeats 4000000 in
theorem S_with_texts_joined {c : Cx} (hG : Gl c) : SSs c (fdN (tops 25)) (fdB (tops 25)) P_with_texts_joined := by
  refine SSs_cons ?_ ?_
  refine SS_asg (i := 1) (k := .local) ?_ ?_ ?_ ?_ ?_
  refine SE_list ?_
  exact SL_nil
  exact rfl
  exact (.inl rfl)
  exact rfl
  exact (.inl rfl)
  refine SSs_cons ?_ ?_
  refine SS_for (i := 2) (k := .local) ?_ ?_ ?_ ?_ ?_ ?_
  exact (SE_loc (i := 0) (k := .local) rfl nofun)
  refine SSs_cons ?_ ?_
  refine SS_if ?_ ?_ ?_
  refine SB_plain ?_ ?_
  refine SE_call (i := 3) ?_ ?_ ?_ ?_ ?_ ?_
  exact rfl
  exact hG.f_is_plain_text.1
  exact hG.f_is_plain_text.2
  refine SL_cons ?_ ?_ ?_
  exact (SE_loc (i := 2) (k := .local) rfl nofun)
  exact SL_nil
  exact rfl
  exact rfl
  exact rfl
  exact (fun _ _ => rfl)
  refine SSs_cons ?_ ?_
  refine SS_if ?_ ?_ ?_
  refine SB_cmp ?_ ?_ ?_ ?_
  refine SE_sub ?_ ?_ ?_
  exact (SE_loc (i := 2) (k := .local) rfl nofun)
  exact SE_intV
  exact rfl
  exact (SE_strL (l := []) rfl)
  exact SCmp_eq
  exact rfl
  refine SSs_cons ?_ ?_
  exact SS_cont
  exact SSs_nil
  exact SSs_nil
  refine SSs_cons ?_ ?_
  refine SS_if ?_ ?_ ?_
  refine SB_and ?_ ?_
  refine SB_cmp ?_ ?_ ?_ ?_
  refine SE_blt (i := 4) (fv := .builtin "len") ?_ ?_ ?_ ?_ ?_ ?_ ?_ ?_
  exact rfl
  exact hG.b_len.1
  exact hG.b_len.2
  exact SC_len
  refine SL_cons ?_ ?_ ?_
  exact (SE_loc (i := 1) (k := .local) rfl nofun)
  exact SL_nil
  exact rfl
  exact rfl
  exact rfl
  exact (.inl ⟨_, rfl⟩)
  exact SE_intV
  exact (SCmp_lt .Gt)
  exact rfl
  refine SB_plain ?_ ?_
  refine SE_call (i := 3) ?_ ?_ ?_ ?_ ?_ ?_
  exact rfl
  exact hG.f_is_plain_text.1
  exact hG.f_is_plain_text.2
  refine SL_cons ?_ ?_ ?_
  refine SE_sub ?_ ?_ ?_
  exact (SE_loc (i := 1) (k := .local) rfl nofun)
  refine SE_bin ?_ ?_ ?_
  refine SE_blt (i := 4) (fv := .builtin "len") ?_ ?_ ?_ ?_ ?_ ?_ ?_ ?_
  exact rfl
  exact hG.b_len.1
  exact hG.b_len.2
  exact SC_len
  refine SL_cons ?_ ?_ ?_
  exact (SE_loc (i := 1) (k := .local) rfl nofun)
  exact SL_nil
  exact rfl
  exact rfl
  exact rfl
  exact (.inl ⟨_, rfl⟩)
  exact SE_intV
  exact (SOp2_ar .Sub)
  exact rfl
  exact SL_nil
  exact rfl
  exact rfl
  exact rfl
  exact (fun _ _ => rfl)
  refine SSs_cons ?_ ?_
  refine SS_asg (i := 2) (k := .local) ?_ ?_ ?_ ?_ ?_
  refine SE_tup ?_
  refine SL_cons ?_ ?_ ?_
  exact (SE_strL (l := [99, 104, 97, 114, 115]) rfl)
  refine SL_cons ?_ ?_ ?_
  refine SE_bin ?_ ?_ ?_
  refine SE_sub ?_ ?_ ?_
  refine SE_lm (id := "list.pop") ?_ ?_ ?_ ?_ ?_ ?_ ?_
  exact (SE_loc (i := 1) (k := .local) rfl nofun)
  exact SL_nil
  exact SC_pop
  exact PySem.F.slot_list_pop
  exact PySem.F.type_list_pop
  exact (fun _ => rfl)
  exact rfl
  exact SE_intV
  exact rfl
  refine SE_sub ?_ ?_ ?_
  exact (SE_loc (i := 2) (k := .local) rfl nofun)
  exact SE_intV
  exact rfl
  exact (SOp2_ar .Add)
  exact SL_nil
  exact rfl
  exact rfl
  exact rfl
  exact (.inl rfl)
  exact rfl
  exact (.inl rfl)
  exact SSs_nil
  exact SSs_nil
  exact SSs_nil
  exact SSs_nil
  refine SSs_cons ?_ ?_
  refine SS_exp ?_ ?_
  refine SE_lm (id := "list.append") ?_ ?_ ?_ ?_ ?_ ?_ ?_
  exact (SE_loc (i := 1) (k := .local) rfl nofun)
  refine SL_cons ?_ ?_ ?_
  exact (SE_loc (i := 2) (k := .local) rfl nofun)
  exact SL_nil
  exact rfl
  exact SC_append
  exact PySem.F.slot_list_append
  exact PySem.F.type_list_append
  exact (fun _ => rfl)
  exact rfl
  exact rfl
  exact SSs_nil
  exact rfl
  exact (.inl rfl)
  exact rfl
  exact (fun _ _ => rfl)
  refine SSs_cons ?_ ?_
  refine SS_ret ?_
  exact (SE_loc (i := 1) (k := .local) rfl nofun)
  exact SSs_nil

noncomputable def P_PatternCode_init : ST := (sCons (sPut 0 (pLoc 0) (pList pNil))
    sNil)
set_option maxHeartbeats 4000000 in
theorem S_PatternCode_init {c : Cx} (hG : Gl c) : SSs c (fdN (subs 26 0)) (fdB (subs 26 0)) P_PatternCode_init := by
  refine SSs_cons ?_ ?_
  refine SS_put (k := 0) ?_ ?_ ?_ ?_
  exact (SE_loc (i := 0) (k := .local) rfl nofun)
  refine SE_list ?_
  exact SL_nil
  exact rfl
  exact rfl
  exact SSs_nil

noncomputable def P_PatternCode_emit : ST := (sCons (sExp (pLm bAppend (pAttr 0 (pLoc 0)) (pCons (pLoc 1) pNil)))
    (sCons (sRet (pOp2 (bAr .Sub) (pBlt bLen (pCons (pAttr 0 (pLoc 0)) pNil)) (pVal (V.int 1))))
    sNil))
set_option maxHeartbeats 4000000 in
theorem S_PatternCode_emit {c : Cx} (hG : Gl c) : SSs c (fdN (subs 26 1)) (fdB (subs 26 1)) P_PatternCode_emit := by
  refine SSs_cons ?_ ?_
  refine SS_exp ?_ ?_
  refine SE_lm (id := "list.append") ?_ ?_ ?_ ?_ ?_ ?_ ?_
  refine SE_attr (k := 0) ?_ ?_ ?_
  exact (SE_loc (i := 0) (k := .local) rfl nofun)
  exact (fun _ _ => rfl)
  exact rfl
  refine SL_cons ?_ ?_ ?_
  exact (SE_loc (i := 1) (k := .local) rfl nofun)
  exact SL_nil
  exact rfl
  exact SC_append
  exact PySem.F.slot_list_append
  exact PySem.F.type_list_append
  exact (fun _ => rfl)
  exact rfl
  exact rfl
  refine SSs_cons ?_ ?_
  refine SS_ret ?_
  refine SE_bin ?_ ?_ ?_
  refine SE_blt (i := 2) (fv := .builtin "len") ?_ ?_ ?_ ?_ ?_ ?_ ?_ ?_
  exact rfl
  exact hG.b_len.1
  exact hG.b_len.2
  exact SC_len
  refine SL_cons ?_ ?_ ?_
  refine SE_attr (k := 0) ?_ ?_ ?_
  exact (SE_loc (i := 0) (k := .local) rfl nofun)
  exact (fun _ _ => rfl)
  exact rfl
  exact SL_nil
  exact rfl
  exact rfl
  exact rfl
  exact (.inl ⟨_, rfl⟩)
  exact SE_intV
  exact (SOp2_ar .Sub)
  exact SSs_nil

noncomputable def T_PatternCode_put_1 : pTest := (tCmp (bLt .Gt) (pBlt bLen (pCons (pLoc 2) pNil)) (pVal (V.int 0)))
noncomputable def B_PatternCode_put_2 : ST := (sCons (sTwo 3 4 (pLm bPop (pLoc 2) pNil))
    (sCons (sIf (tCmp bEq (pLoc 3) (pVal (V.str [112, 117, 116]))) (sCons (sExp (pLm bExtend (pLoc 2) (pCons (pSl (pMeth 20 (pLoc 0) (pCons (pLoc 4) pNil)) (pVal V.none) (pVal V.none) (pVal (V.int (-1)))) pNil)))
    sNil) (sCons (sIf (tCmp bEq (pLoc 3) (pVal (V.str [101, 109, 105, 116]))) (sCons (sExp (pMeth 18 (pLoc 0) (pCons (pLoc 4) pNil)))
    sNil) (sCons (sExp (pMeth 23 (pLoc 0) (pCons (pLoc 3) (pCons (pLoc 4) pNil))))
    sNil))
    sNil))
    sNil))
noncomputable def P_PatternCode_put : ST := (sCons (sAsg 2 (pList (pCons (pTup (pCons (pVal (V.str [112, 117, 116])) (pCons (pLoc 1) pNil))) pNil)))
    (sCons (sWhile T_PatternCode_put_1 B_PatternCode_put_2)
    sNil))
set_option maxHeartbeats 4000000 in
theorem S_PatternCode_put {c : Cx} (hG : Gl c) : SSs c (fdN (subs 26 2)) (fdB (subs 26 2)) P_PatternCode_put := by
  refine SSs_cons ?_ ?_
  refine SS_asg (i := 2) (k := .local) ?_ ?_ ?_ ?_ ?_
  refine SE_list ?_
  refine SL_cons ?_ ?_ ?_
  refine SE_tup ?_
  refine SL_cons ?_ ?_ ?_
  exact (SE_gv (i := 5) rfl hG.v_PUT rfl)
  refine SL_cons ?_ ?_ ?_
  exact (SE_loc (i := 1) (k := .local) rfl nofun)
  exact SL_nil
  exact rfl
  exact rfl
  exact SL_nil
  exact rfl
  exact rfl
  exact (.inl rfl)
  exact rfl
  exact (.inl rfl)
  refine SSs_cons ?_ ?_
  refine SS_while ?_ ?_
  refine SB_cmp ?_ ?_ ?_ ?_
  refine SE_blt (i := 6) (fv := .builtin "len") ?_ ?_ ?_ ?_ ?_ ?_ ?_ ?_
  exact rfl
  exact hG.b_len.1
  exact hG.b_len.2
  exact SC_len
  refine SL_cons ?_ ?_ ?_
  exact (SE_loc (i := 2) (k := .local) rfl nofun)
  exact SL_nil
  exact rfl
  exact rfl
  exact rfl
  exact (.inl ⟨_, rfl⟩)
  exact SE_intV
  exact (SCmp_lt .Gt)
  exact rfl
  refine SSs_cons ?_ ?_
  refine SS_two (i := 3) (j := 4) (k := .local) (k' := .local) ?_ ?_ ?_ ?_ ?_ ?_ ?_ ?_ ?_
  refine SE_lm (id := "list.pop") ?_ ?_ ?_ ?_ ?_ ?_ ?_
  exact (SE_loc (i := 2) (k := .local) rfl nofun)
  exact SL_nil
  exact SC_pop
  exact PySem.F.slot_list_pop
  exact PySem.F.type_list_pop
  exact (fun _ => rfl)
  exact rfl
  exact rfl
  exact rfl
  exact (.inl rfl)
  exact (.inl rfl)
  exact rfl
  exact rfl
  exact rfl
  exact (swap_none rfl _ _)
  refine SSs_cons ?_ ?_
  refine SS_if ?_ ?_ ?_
  refine SB_cmp ?_ ?_ ?_ ?_
  exact (SE_loc (i := 3) (k := .local) rfl nofun)
  exact (SE_gv (i := 5) rfl hG.v_PUT rfl)
  exact SCmp_eq
  exact rfl
  refine SSs_cons ?_ ?_
  refine SS_exp ?_ ?_
  refine SE_lm (id := "list.extend") ?_ ?_ ?_ ?_ ?_ ?_ ?_
  exact (SE_loc (i := 2) (k := .local) rfl nofun)
  refine SL_cons ?_ ?_ ?_
  refine SE_slice ?_ ?_ ?_ ?_
  refine SE_meth (k := 20) ?_ ?_ ?_ ?_ ?_
  exact (SE_loc (i := 0) (k := .local) rfl nofun)
  refine SL_cons ?_ ?_ ?_
  exact (SE_loc (i := 4) (k := .local) rfl nofun)
  exact SL_nil
  exact rfl
  exact rfl
  exact (fun _ => rfl)
  exact rfl
  exact SP_none
  exact SP_none
  refine SP_some ?_
  exact SE_neg
  exact SL_nil
  exact rfl
  exact SC_extend
  exact PySem.F.slot_list_extend
  exact PySem.F.type_list_extend
  exact (fun _ => rfl)
  exact rfl
  exact rfl
  exact SSs_nil
  refine SSs_cons ?_ ?_
  refine SS_if ?_ ?_ ?_
  refine SB_cmp ?_ ?_ ?_ ?_
  exact (SE_loc (i := 3) (k := .local) rfl nofun)
  exact (SE_gv (i := 7) rfl hG.v_EMIT rfl)
  exact SCmp_eq
  exact rfl
  refine SSs_cons ?_ ?_
  refine SS_exp ?_ ?_
  refine SE_meth (k := 18) ?_ ?_ ?_ ?_ ?_
  exact (SE_loc (i := 0) (k := .local) rfl nofun)
  refine SL_cons ?_ ?_ ?_
  exact (SE_loc (i := 4) (k := .local) rfl nofun)
  exact SL_nil
  exact rfl
  exact rfl
  exact (fun _ => rfl)
  exact rfl
  exact rfl
  exact SSs_nil
  refine SSs_cons ?_ ?_
  refine SS_exp ?_ ?_
  refine SE_meth (k := 23) ?_ ?_ ?_ ?_ ?_
  exact (SE_loc (i := 0) (k := .local) rfl nofun)
  refine SL_cons ?_ ?_ ?_
  exact (SE_loc (i := 3) (k := .local) rfl nofun)
  refine SL_cons ?_ ?_ ?_
  exact (SE_loc (i := 4) (k := .local) rfl nofun)
  exact SL_nil
  exact rfl
  exact rfl
  exact rfl
  exact (fun _ => rfl)
  exact rfl
  exact rfl
  exact SSs_nil
  exact SSs_nil
  exact SSs_nil
  exact SSs_nil

noncomputable def P_PatternCode_begun : ST := (sCons (sAsg 2 (pOp2 bIdx (pLoc 1) (pVal (V.int 0))))
    (sCons (sIf (tCmp bEq (pLoc 2) (pVal (V.str [99, 97, 116]))) (sCons (sRet (pComp (pCompL [none, none, none] (tgName 1) (pCall 37 (pCons (pCall 23 (pCons (pLoc 1) (pCons (pVal (V.str [99, 97, 116])) pNil))) pNil)) tTrue (pTup (pCons (pVal (V.str [112, 117, 116])) (pCons (pLoc 1) pNil))))))
    sNil) sNil)
    (sCons (sIf (tCmp bEq (pLoc 2) (pVal (V.str [97, 108, 116]))) (sCons (sRet (pMeth 21 (pLoc 0) (pCons (pCall 23 (pCons (pLoc 1) (pCons (pVal (V.str [97, 108, 116])) pNil))) pNil)))
    sNil) sNil)
    (sCons (sIf (tCmp bEq (pLoc 2) (pVal (V.str [97, 114, 98, 110, 111]))) (sCons (sRet (pMeth 22 (pLoc 0) (pCons (pOp2 bIdx (pLoc 1) (pVal (V.int 1))) pNil)))
    sNil) sNil)
    (sCons (sIf (tOr (tCmp bEq (pLoc 2) (pVal (V.str [108, 97, 116, 101, 114]))) (tCmp bEq (pLoc 2) (pVal (V.str [110, 111, 119])))) (sCons (sExp (pMeth 18 (pLoc 0) (pCons (pTup (pCons (pVal (V.str [109, 97, 114, 107])) pNil)) pNil)))
    (sCons (sRet (pList (pCons (pTup (pCons (pVal (V.str [112, 117, 116])) (pCons (pOp2 bIdx (pLoc 1) (pVal (V.int 1))) pNil))) (pCons (pTup (pCons (pVal (V.str [101, 109, 105, 116])) (pCons (pTup (pCons (pIf (tCmp bEq (pLoc 2) (pVal (V.str [108, 97, 116, 101, 114]))) (pVal (V.str [110, 97, 109, 101])) (pVal (V.str [115, 101, 116]))) (pCons (pOp2 bIdx (pLoc 1) (pVal (V.int 2))) pNil))) pNil))) pNil))))
    sNil)) sNil)
    (sCons (sIf (tCmp bIn (pLoc 2) (pVal (V.tup [V.str [99, 104, 97, 114, 115], V.str [108, 101, 110], V.str [112, 111, 115], V.str [114, 112, 111, 115], V.str [116, 97, 98], V.str [114, 116, 97, 98], V.str [97, 110, 121], V.str [110, 111, 116, 97, 110, 121], V.str [115, 112, 97, 110], V.str [98, 114, 101, 97, 107], V.str [114, 101, 109]]))) (sCons (sExp (pMeth 18 (pLoc 0) (pCons (pTup (pCons (pVal (V.str [111, 110, 101])) (pCons (pLoc 2) (pCons (pIf (tCmp (bLt .Gt) (pBlt bLen (pCons (pLoc 1) pNil)) (pVal (V.int 1))) (pOp2 bIdx (pLoc 1) (pVal (V.int 1))) (pVal (V.none))) pNil)))) pNil)))
    sNil) (sCons (sIf (tOr (tCmp bEq (pLoc 2) (pVal (V.str [97, 114, 98]))) (tCmp bEq (pLoc 2) (pVal (V.str [98, 97, 108])))) (sCons (sExp (pMeth 18 (pLoc 0) (pCons (pTup (pCons (pVal (V.str [119, 97, 121, 115])) (pCons (pLoc 2) pNil))) pNil)))
    sNil) (sCons (sExp (pMeth 18 (pLoc 0) (pCons (pIf (tCmp bIn (pLoc 2) (pVal (V.tup [V.str [102, 101, 110, 99, 101], V.str [102, 97, 105, 108], V.str [97, 98, 111, 114, 116], V.str [115, 117, 99, 99, 101, 101, 100]]))) (pTup (pCons (pLoc 2) pNil)) (pTup (pCons (pIf (tCmp bEq (pLoc 2) (pVal (V.str [99, 117, 114, 115, 111, 114]))) (pVal (V.str [112, 108, 97, 99, 101])) (pVal (V.str [97, 115, 107]))) (pCons (pOp2 bIdx (pLoc 1) (pVal (V.int 1))) pNil)))) pNil)))
    sNil))
    sNil))
    (sCons (sRet (pList pNil))
    sNil)))))))
set_option maxHeartbeats 4000000 in
theorem S_PatternCode_begun {c : Cx} (hG : Gl c) : SSs c (fdN (subs 26 3)) (fdB (subs 26 3)) P_PatternCode_begun := by
  refine SSs_cons ?_ ?_
  refine SS_asg (i := 2) (k := .local) ?_ ?_ ?_ ?_ ?_
  refine SE_sub ?_ ?_ ?_
  exact (SE_loc (i := 1) (k := .local) rfl nofun)
  exact SE_intV
  exact rfl
  exact rfl
  exact (.inl rfl)
  exact rfl
  exact (.inl rfl)
  refine SSs_cons ?_ ?_
  refine SS_if ?_ ?_ ?_
  refine SB_cmp ?_ ?_ ?_ ?_
  exact (SE_loc (i := 2) (k := .local) rfl nofun)
  exact (SE_strL (l := [99, 97, 116]) rfl)
  exact SCmp_eq
  exact rfl
  refine SSs_cons ?_ ?_
  refine SS_ret ?_
  refine SE_comp ?_
  refine SComp_L (fr := [none, none, none]) ?_ ?_ ?_ ?_ ?_ ?_
  exact (by exact ⟨rfl, by decide +kernel, by decide +kernel, by decide +kernel⟩)
  refine SE_call (i := 3) ?_ ?_ ?_ ?_ ?_ ?_
  exact rfl
  exact hG.f_with_texts_joined.1
  exact hG.f_with_texts_joined.2
  refine SL_cons ?_ ?_ ?_
  refine SE_call (i := 4) ?_ ?_ ?_ ?_ ?_ ?_
  exact rfl
  exact hG.f_row_of.1
  exact hG.f_row_of.2
  refine SL_cons ?_ ?_ ?_
  exact (SE_loc (i := 1) (k := .local) rfl nofun)
  refine SL_cons ?_ ?_ ?_
  exact (SE_strL (l := [99, 97, 116]) rfl)
  exact SL_nil
  exact rfl
  exact rfl
  exact rfl
  exact rfl
  exact SL_nil
  exact rfl
  exact rfl
  exact rfl
  exact SBF_nil
  refine SE_tup ?_
  refine SL_cons ?_ ?_ ?_
  exact (SE_gv (i := 2) rfl hG.v_PUT rfl)
  refine SL_cons ?_ ?_ ?_
  exact (SE_loc (i := 1) (k := .local) rfl nofun)
  exact SL_nil
  exact rfl
  exact rfl
  exact (TgtOk_name (i := 1) rfl)
  exact (fun _ _ => rfl)
  exact SSs_nil
  exact SSs_nil
  refine SSs_cons ?_ ?_
  refine SS_if ?_ ?_ ?_
  refine SB_cmp ?_ ?_ ?_ ?_
  exact (SE_loc (i := 2) (k := .local) rfl nofun)
  exact (SE_strL (l := [97, 108, 116]) rfl)
  exact SCmp_eq
  exact rfl
  refine SSs_cons ?_ ?_
  refine SS_ret ?_
  refine SE_meth (k := 21) ?_ ?_ ?_ ?_ ?_
  exact (SE_loc (i := 0) (k := .local) rfl nofun)
  refine SL_cons ?_ ?_ ?_
  refine SE_call (i := 4) ?_ ?_ ?_ ?_ ?_ ?_
  exact rfl
  exact hG.f_row_of.1
  exact hG.f_row_of.2
  refine SL_cons ?_ ?_ ?_
  exact (SE_loc (i := 1) (k := .local) rfl nofun)
  refine SL_cons ?_ ?_ ?_
  exact (SE_strL (l := [97, 108, 116]) rfl)
  exact SL_nil
  exact rfl
  exact rfl
  exact rfl
  exact rfl
  exact SL_nil
  exact rfl
  exact rfl
  exact (fun _ => rfl)
  exact rfl
  exact SSs_nil
  exact SSs_nil
  refine SSs_cons ?_ ?_
  refine SS_if ?_ ?_ ?_
  refine SB_cmp ?_ ?_ ?_ ?_
  exact (SE_loc (i := 2) (k := .local) rfl nofun)
  exact (SE_strL (l := [97, 114, 98, 110, 111]) rfl)
  exact SCmp_eq
  exact rfl
  refine SSs_cons ?_ ?_
  refine SS_ret ?_
  refine SE_meth (k := 22) ?_ ?_ ?_ ?_ ?_
  exact (SE_loc (i := 0) (k := .local) rfl nofun)
  refine SL_cons ?_ ?_ ?_
  refine SE_sub ?_ ?_ ?_
  exact (SE_loc (i := 1) (k := .local) rfl nofun)
  exact SE_intV
  exact rfl
  exact SL_nil
  exact rfl
  exact rfl
  exact (fun _ => rfl)
  exact rfl
  exact SSs_nil
  exact SSs_nil
  refine SSs_cons ?_ ?_
  refine SS_if ?_ ?_ ?_
  refine SB_or ?_ ?_
  refine SB_cmp ?_ ?_ ?_ ?_
  exact (SE_loc (i := 2) (k := .local) rfl nofun)
  exact (SE_strL (l := [108, 97, 116, 101, 114]) rfl)
  exact SCmp_eq
  exact rfl
  refine SB_cmp ?_ ?_ ?_ ?_
  exact (SE_loc (i := 2) (k := .local) rfl nofun)
  exact (SE_strL (l := [110, 111, 119]) rfl)
  exact SCmp_eq
  exact rfl
  refine SSs_cons ?_ ?_
  refine SS_exp ?_ ?_
  refine SE_meth (k := 18) ?_ ?_ ?_ ?_ ?_
  exact (SE_loc (i := 0) (k := .local) rfl nofun)
  refine SL_cons ?_ ?_ ?_
  refine SE_tup ?_
  refine SL_cons ?_ ?_ ?_
  exact (SE_gv (i := 5) rfl hG.v_MARK rfl)
  exact SL_nil
  exact rfl
  exact SL_nil
  exact rfl
  exact rfl
  exact (fun _ => rfl)
  exact rfl
  exact rfl
  refine SSs_cons ?_ ?_
  refine SS_ret ?_
  refine SE_list ?_
  refine SL_cons ?_ ?_ ?_
  refine SE_tup ?_
  refine SL_cons ?_ ?_ ?_
  exact (SE_gv (i := 6) rfl hG.v_PUT rfl)
  refine SL_cons ?_ ?_ ?_
  refine SE_sub ?_ ?_ ?_
  exact (SE_loc (i := 1) (k := .local) rfl nofun)
  exact SE_intV
  exact rfl
  exact SL_nil
  exact rfl
  exact rfl
  refine SL_cons ?_ ?_ ?_
  refine SE_tup ?_
  refine SL_cons ?_ ?_ ?_
  exact (SE_gv (i := 7) rfl hG.v_EMIT rfl)
  refine SL_cons ?_ ?_ ?_
  refine SE_tup ?_
  refine SL_cons ?_ ?_ ?_
  refine SE_ifexp ?_ ?_ ?_
  refine SB_cmp ?_ ?_ ?_ ?_
  exact (SE_loc (i := 2) (k := .local) rfl nofun)
  exact (SE_strL (l := [108, 97, 116, 101, 114]) rfl)
  exact SCmp_eq
  exact rfl
  exact (SE_gv (i := 8) rfl hG.v_NAME rfl)
  exact (SE_gv (i := 9) rfl hG.v_SET rfl)
  refine SL_cons ?_ ?_ ?_
  refine SE_sub ?_ ?_ ?_
  exact (SE_loc (i := 1) (k := .local) rfl nofun)
  exact SE_intV
  exact rfl
  exact SL_nil
  exact rfl
  exact rfl
  exact SL_nil
  exact rfl
  exact rfl
  exact SL_nil
  exact rfl
  exact rfl
  exact SSs_nil
  exact SSs_nil
  refine SSs_cons ?_ ?_
  refine SS_if ?_ ?_ ?_
  refine SB_cmp ?_ ?_ ?_ ?_
  exact (SE_loc (i := 2) (k := .local) rfl nofun)
  exact (SE_gv (i := 10) rfl hG.v_SINGLE rfl)
  exact SCmp_in
  exact rfl
  refine SSs_cons ?_ ?_
  refine SS_exp ?_ ?_
  refine SE_meth (k := 18) ?_ ?_ ?_ ?_ ?_
  exact (SE_loc (i := 0) (k := .local) rfl nofun)
  refine SL_cons ?_ ?_ ?_
  refine SE_tup ?_
  refine SL_cons ?_ ?_ ?_
  exact (SE_gv (i := 11) rfl hG.v_ONE rfl)
  refine SL_cons ?_ ?_ ?_
  exact (SE_loc (i := 2) (k := .local) rfl nofun)
  refine SL_cons ?_ ?_ ?_
  refine SE_ifexp ?_ ?_ ?_
  refine SB_cmp ?_ ?_ ?_ ?_
  refine SE_blt (i := 12) (fv := .builtin "len") ?_ ?_ ?_ ?_ ?_ ?_ ?_ ?_
  exact rfl
  exact hG.b_len.1
  exact hG.b_len.2
  exact SC_len
  refine SL_cons ?_ ?_ ?_
  exact (SE_loc (i := 1) (k := .local) rfl nofun)
  exact SL_nil
  exact rfl
  exact rfl
  exact rfl
  exact (.inl ⟨_, rfl⟩)
  exact SE_intV
  exact (SCmp_lt .Gt)
  exact rfl
  refine SE_sub ?_ ?_ ?_
  exact (SE_loc (i := 1) (k := .local) rfl nofun)
  exact SE_intV
  exact rfl
  exact SE_noneV
  exact SL_nil
  exact rfl
  exact rfl
  exact rfl
  exact SL_nil
  exact rfl
  exact rfl
  exact (fun _ => rfl)
  exact rfl
  exact rfl
  exact SSs_nil
  refine SSs_cons ?_ ?_
  refine SS_if ?_ ?_ ?_
  refine SB_or ?_ ?_
  refine SB_cmp ?_ ?_ ?_ ?_
  exact (SE_loc (i := 2) (k := .local) rfl nofun)
  exact (SE_strL (l := [97, 114, 98]) rfl)
  exact SCmp_eq
  exact rfl
  refine SB_cmp ?_ ?_ ?_ ?_
  exact (SE_loc (i := 2) (k := .local) rfl nofun)
  exact (SE_strL (l := [98, 97, 108]) rfl)
  exact SCmp_eq
  exact rfl
  refine SSs_cons ?_ ?_
  refine SS_exp ?_ ?_
  refine SE_meth (k := 18) ?_ ?_ ?_ ?_ ?_
  exact (SE_loc (i := 0) (k := .local) rfl nofun)
  refine SL_cons ?_ ?_ ?_
  refine SE_tup ?_
  refine SL_cons ?_ ?_ ?_
  exact (SE_gv (i := 13) rfl hG.v_WAYS rfl)
  refine SL_cons ?_ ?_ ?_
  exact (SE_loc (i := 2) (k := .local) rfl nofun)
  exact SL_nil
  exact rfl
  exact rfl
  exact SL_nil
  exact rfl
  exact rfl
  exact (fun _ => rfl)
  exact rfl
  exact rfl
  exact SSs_nil
  refine SSs_cons ?_ ?_
  refine SS_exp ?_ ?_
  refine SE_meth (k := 18) ?_ ?_ ?_ ?_ ?_
  exact (SE_loc (i := 0) (k := .local) rfl nofun)
  refine SL_cons ?_ ?_ ?_
  refine SE_ifexp ?_ ?_ ?_
  refine SB_cmp ?_ ?_ ?_ ?_
  exact (SE_loc (i := 2) (k := .local) rfl nofun)
  exact (SE_gv (i := 14) rfl hG.v_ALONE rfl)
  exact SCmp_in
  exact rfl
  refine SE_tup ?_
  refine SL_cons ?_ ?_ ?_
  exact (SE_loc (i := 2) (k := .local) rfl nofun)
  exact SL_nil
  exact rfl
  refine SE_tup ?_
  refine SL_cons ?_ ?_ ?_
  refine SE_ifexp ?_ ?_ ?_
  refine SB_cmp ?_ ?_ ?_ ?_
  exact (SE_loc (i := 2) (k := .local) rfl nofun)
  exact (SE_strL (l := [99, 117, 114, 115, 111, 114]) rfl)
  exact SCmp_eq
  exact rfl
  exact (SE_gv (i := 15) rfl hG.v_PLACE rfl)
  exact (SE_gv (i := 16) rfl hG.v_ASK rfl)
  refine SL_cons ?_ ?_ ?_
  refine SE_sub ?_ ?_ ?_
  exact (SE_loc (i := 1) (k := .local) rfl nofun)
  exact SE_intV
  exact rfl
  exact SL_nil
  exact rfl
  exact rfl
  exact SL_nil
  exact rfl
  exact rfl
  exact (fun _ => rfl)
  exact rfl
  exact rfl
  exact SSs_nil
  exact SSs_nil
  refine SSs_cons ?_ ?_
  refine SS_ret ?_
  refine SE_list ?_
  exact SL_nil
  exact SSs_nil

noncomputable def P_PatternCode_choice_0 : ST := (sSwap 2 3 (pTup (pCons (pList pNil) (pCons (pList (pCons (pVal (V.int (-1))) (pCons (pList pNil) pNil))) pNil))))
set_option maxHeartbeats 4000000 in
theorem S_PatternCode_choice_0 {c : Cx} (hG : Gl c) : SS c (fdN (subs 26 4)) ((fdB (subs 26 4)).getD 0 (.Pass ⟨0, 0, 0, 0⟩)) P_PatternCode_choice_0 := by
  refine SS_swap (i := 2) (j := 3) ?_ ?_ ?_ ?_ ?_ ?_ ?_
  refine SE_tup ?_
  refine SL_cons ?_ ?_ ?_
  refine SE_list ?_
  exact SL_nil
  refine SL_cons ?_ ?_ ?_
  refine SE_list ?_
  refine SL_cons ?_ ?_ ?_
  exact SE_neg
  refine SL_cons ?_ ?_ ?_
  refine SE_list ?_
  exact SL_nil
  exact SL_nil
  exact rfl
  exact rfl
  exact SL_nil
  exact rfl
  exact rfl
  exact rfl
  exact rfl
  exact rfl
  exact rfl
  exact rfl
  exact (swap_two rfl rfl rfl rfl rfl rfl)

noncomputable def B_PatternCode_choice_1 : ST := (sCons (sExp (pLm bExtend (pLoc 2) (pCons (pList (pCons (pTup (pCons (pVal (V.str [111, 112, 101, 110])) (pCons (pLoc 3) pNil))) (pCons (pTup (pCons (pVal (V.str [112, 117, 116])) (pCons (pLoc 4) pNil))) (pCons (pTup (pCons (pVal (V.str [115, 104, 117, 116])) (pCons (pLoc 3) pNil))) pNil)))) pNil)))
    sNil)
noncomputable def P_PatternCode_choice_1 : ST := (sFor 4 (pSl (pLoc 1) (pVal V.none) (pOp2 (bAr .Sub) (pBlt bLen (pCons (pLoc 1) pNil)) (pVal (V.int 1))) (pVal V.none)) B_PatternCode_choice_1)
set_option maxHeartbeats 4000000 in
theorem S_PatternCode_choice_1 {c : Cx} (hG : Gl c) : SS c (fdN (subs 26 4)) ((fdB (subs 26 4)).getD 1 (.Pass ⟨0, 0, 0, 0⟩)) P_PatternCode_choice_1 := by
  refine SS_for (i := 4) (k := .local) ?_ ?_ ?_ ?_ ?_ ?_
  refine SE_slice ?_ ?_ ?_ ?_
  exact (SE_loc (i := 1) (k := .local) rfl nofun)
  exact SP_none
  refine SP_some ?_
  refine SE_bin ?_ ?_ ?_
  refine SE_blt (i := 5) (fv := .builtin "len") ?_ ?_ ?_ ?_ ?_ ?_ ?_ ?_
  exact rfl
  exact hG.b_len.1
  exact hG.b_len.2
  exact SC_len
  refine SL_cons ?_ ?_ ?_
  exact (SE_loc (i := 1) (k := .local) rfl nofun)
  exact SL_nil
  exact rfl
  exact rfl
  exact rfl
  exact (.inl ⟨_, rfl⟩)
  exact SE_intV
  exact (SOp2_ar .Sub)
  exact SP_none
  refine SSs_cons ?_ ?_
  refine SS_exp ?_ ?_
  refine SE_lm (id := "list.extend") ?_ ?_ ?_ ?_ ?_ ?_ ?_
  exact (SE_loc (i := 2) (k := .local) rfl nofun)
  refine SL_cons ?_ ?_ ?_
  refine SE_list ?_
  refine SL_cons ?_ ?_ ?_
  refine SE_tup ?_
  refine SL_cons ?_ ?_ ?_
  exact (SE_gv (i := 6) rfl hG.v_OPEN rfl)
  refine SL_cons ?_ ?_ ?_
  exact (SE_loc (i := 3) (k := .local) rfl nofun)
  exact SL_nil
  exact rfl
  exact rfl
  refine SL_cons ?_ ?_ ?_
  refine SE_tup ?_
  refine SL_cons ?_ ?_ ?_
  exact (SE_gv (i := 7) rfl hG.v_PUT rfl)
  refine SL_cons ?_ ?_ ?_
  exact (SE_loc (i := 4) (k := .local) rfl nofun)
  exact SL_nil
  exact rfl
  exact rfl
  refine SL_cons ?_ ?_ ?_
  refine SE_tup ?_
  refine SL_cons ?_ ?_ ?_
  exact (SE_gv (i := 8) rfl hG.v_SHUT rfl)
  refine SL_cons ?_ ?_ ?_
  exact (SE_loc (i := 3) (k := .local) rfl nofun)
  exact SL_nil
  exact rfl
  exact rfl
  exact SL_nil
  exact rfl
  exact rfl
  exact rfl
  exact SL_nil
  exact rfl
  exact SC_extend
  exact PySem.F.slot_list_extend
  exact PySem.F.type_list_extend
  exact (fun _ => rfl)
  exact rfl
  exact rfl
  exact SSs_nil
  exact rfl
  exact (.inl rfl)
  exact rfl
  exact (fun _ _ => rfl)

noncomputable def P_PatternCode_choice_2 : ST := (sRet (pAddL (pLoc 2) (pList (pCons (pTup (pCons (pVal (V.str [112, 117, 116])) (pCons (pOp2 bIdx (pLoc 1) (pOp2 (bAr .Sub) (pBlt bLen (pCons (pLoc 1) pNil)) (pVal (V.int 1)))) pNil))) (pCons (pTup (pCons (pVal (V.str [109, 101, 101, 116])) (pCons (pLoc 3) pNil))) pNil)))))
set_option maxHeartbeats 4000000 in
theorem S_PatternCode_choice_2 {c : Cx} (hG : Gl c) : SS c (fdN (subs 26 4)) ((fdB (subs 26 4)).getD 2 (.Pass ⟨0, 0, 0, 0⟩)) P_PatternCode_choice_2 := by
  refine SS_ret ?_
  refine SE_addl ?_ ?_
  exact (SE_loc (i := 2) (k := .local) rfl nofun)
  refine SE_list ?_
  refine SL_cons ?_ ?_ ?_
  refine SE_tup ?_
  refine SL_cons ?_ ?_ ?_
  exact (SE_gv (i := 7) rfl hG.v_PUT rfl)
  refine SL_cons ?_ ?_ ?_
  refine SE_sub ?_ ?_ ?_
  exact (SE_loc (i := 1) (k := .local) rfl nofun)
  refine SE_bin ?_ ?_ ?_
  refine SE_blt (i := 5) (fv := .builtin "len") ?_ ?_ ?_ ?_ ?_ ?_ ?_ ?_
  exact rfl
  exact hG.b_len.1
  exact hG.b_len.2
  exact SC_len
  refine SL_cons ?_ ?_ ?_
  exact (SE_loc (i := 1) (k := .local) rfl nofun)
  exact SL_nil
  exact rfl
  exact rfl
  exact rfl
  exact (.inl ⟨_, rfl⟩)
  exact SE_intV
  exact (SOp2_ar .Sub)
  exact rfl
  exact SL_nil
  exact rfl
  exact rfl
  refine SL_cons ?_ ?_ ?_
  refine SE_tup ?_
  refine SL_cons ?_ ?_ ?_
  exact (SE_gv (i := 9) rfl hG.v_MEET rfl)
  refine SL_cons ?_ ?_ ?_
  exact (SE_loc (i := 3) (k := .local) rfl nofun)
  exact SL_nil
  exact rfl
  exact rfl
  exact SL_nil
  exact rfl
  exact rfl

noncomputable def P_PatternCode_choice : ST := (sCons P_PatternCode_choice_0 (sCons P_PatternCode_choice_1 (sCons P_PatternCode_choice_2 sNil)))
theorem R_PatternCode_choice {c : Cx} : ∀ (N : Names) (b : List Stmt), b.length = 3 → SS c N (b.getD 0 (.Pass ⟨0, 0, 0, 0⟩)) P_PatternCode_choice_0 → SS c N (b.getD 1 (.Pass ⟨0, 0, 0, 0⟩)) P_PatternCode_choice_1 → SS c N (b.getD 2 (.Pass ⟨0, 0, 0, 0⟩)) P_PatternCode_choice_2 → SSs c N b P_PatternCode_choice := by
    intro N b hl h0 h1 h2
    refine SSs_all ?_
    refine SSs_drop (k := 0) (by rw [hl]; decide) h0 ?_
    refine SSs_drop (k := 1) (by rw [hl]; decide) h1 ?_
    refine SSs_drop (k := 2) (by rw [hl]; decide) h2 ?_
    exact SSs_dropEnd (Nat.le_of_eq hl)
theorem S_PatternCode_choice {c : Cx} (hG : Gl c) : SSs c (fdN (subs 26 4)) (fdB (subs 26 4)) P_PatternCode_choice := @R_PatternCode_choice c _ _ (by decide +kernel) (@S_PatternCode_choice_0 c hG) (@S_PatternCode_choice_1 c hG) (@S_PatternCode_choice_2 c hG)

noncomputable def P_PatternCode_repeat : ST := (sCons (sAsg 2 (pMeth 18 (pLoc 0) (pCons (pVal (V.none)) pNil)))
    (sCons (sAsg 3 (pMeth 18 (pLoc 0) (pCons (pVal (V.none)) pNil)))
    (sCons (sSet (pAttr 0 (pLoc 0)) (pLoc 2) (pTup (pCons (pVal (V.str [115, 112, 108, 105, 116])) (pCons (pBlt bLen (pCons (pAttr 0 (pLoc 0)) pNil)) pNil))))
    (sCons (sExp (pMeth 18 (pLoc 0) (pCons (pTup (pCons (pVal (V.str [109, 97, 114, 107])) pNil)) pNil)))
    (sCons (sRet (pList (pCons (pTup (pCons (pVal (V.str [112, 117, 116])) (pCons (pLoc 1) pNil))) (pCons (pTup (pCons (pVal (V.str [101, 109, 105, 116])) (pCons (pTup (pCons (pVal (V.str [103, 97, 105, 110])) pNil)) pNil))) (pCons (pTup (pCons (pVal (V.str [101, 109, 105, 116])) (pCons (pTup (pCons (pVal (V.str [106, 117, 109, 112])) (pCons (pLoc 2) pNil))) pNil))) (pCons (pTup (pCons (pVal (V.str [109, 101, 101, 116])) (pCons (pList (pCons (pLoc 2) (pCons (pList (pCons (pLoc 3) pNil)) pNil))) pNil))) pNil))))))
    sNil)))))
set_option maxHeartbeats 4000000 in
theorem S_PatternCode_repeat {c : Cx} (hG : Gl c) : SSs c (fdN (subs 26 5)) (fdB (subs 26 5)) P_PatternCode_repeat := by
  refine SSs_cons ?_ ?_
  refine SS_asg (i := 2) (k := .local) ?_ ?_ ?_ ?_ ?_
  refine SE_meth (k := 18) ?_ ?_ ?_ ?_ ?_
  exact (SE_loc (i := 0) (k := .local) rfl nofun)
  refine SL_cons ?_ ?_ ?_
  exact SE_noneV
  exact SL_nil
  exact rfl
  exact rfl
  exact (fun _ => rfl)
  exact rfl
  exact rfl
  exact (.inl rfl)
  exact rfl
  exact (.inl rfl)
  refine SSs_cons ?_ ?_
  refine SS_asg (i := 3) (k := .local) ?_ ?_ ?_ ?_ ?_
  refine SE_meth (k := 18) ?_ ?_ ?_ ?_ ?_
  exact (SE_loc (i := 0) (k := .local) rfl nofun)
  refine SL_cons ?_ ?_ ?_
  exact SE_noneV
  exact SL_nil
  exact rfl
  exact rfl
  exact (fun _ => rfl)
  exact rfl
  exact rfl
  exact (.inl rfl)
  exact rfl
  exact (.inl rfl)
  refine SSs_cons ?_ ?_
  refine SS_set ?_ ?_ ?_ ?_
  refine SE_attr (k := 0) ?_ ?_ ?_
  exact (SE_loc (i := 0) (k := .local) rfl nofun)
  exact (fun _ _ => rfl)
  exact rfl
  exact (SE_loc (i := 2) (k := .local) rfl nofun)
  refine SE_tup ?_
  refine SL_cons ?_ ?_ ?_
  exact (SE_gv (i := 4) rfl hG.v_SPLIT rfl)
  refine SL_cons ?_ ?_ ?_
  refine SE_blt (i := 5) (fv := .builtin "len") ?_ ?_ ?_ ?_ ?_ ?_ ?_ ?_
  exact rfl
  exact hG.b_len.1
  exact hG.b_len.2
  exact SC_len
  refine SL_cons ?_ ?_ ?_
  refine SE_attr (k := 0) ?_ ?_ ?_
  exact (SE_loc (i := 0) (k := .local) rfl nofun)
  exact (fun _ _ => rfl)
  exact rfl
  exact SL_nil
  exact rfl
  exact rfl
  exact rfl
  exact (.inl ⟨_, rfl⟩)
  exact SL_nil
  exact rfl
  exact rfl
  exact rfl
  refine SSs_cons ?_ ?_
  refine SS_exp ?_ ?_
  refine SE_meth (k := 18) ?_ ?_ ?_ ?_ ?_
  exact (SE_loc (i := 0) (k := .local) rfl nofun)
  refine SL_cons ?_ ?_ ?_
  refine SE_tup ?_
  refine SL_cons ?_ ?_ ?_
  exact (SE_gv (i := 6) rfl hG.v_MARK rfl)
  exact SL_nil
  exact rfl
  exact SL_nil
  exact rfl
  exact rfl
  exact (fun _ => rfl)
  exact rfl
  exact rfl
  refine SSs_cons ?_ ?_
  refine SS_ret ?_
  refine SE_list ?_
  refine SL_cons ?_ ?_ ?_
  refine SE_tup ?_
  refine SL_cons ?_ ?_ ?_
  exact (SE_gv (i := 7) rfl hG.v_PUT rfl)
  refine SL_cons ?_ ?_ ?_
  exact (SE_loc (i := 1) (k := .local) rfl nofun)
  exact SL_nil
  exact rfl
  exact rfl
  refine SL_cons ?_ ?_ ?_
  refine SE_tup ?_
  refine SL_cons ?_ ?_ ?_
  exact (SE_gv (i := 8) rfl hG.v_EMIT rfl)
  refine SL_cons ?_ ?_ ?_
  refine SE_tup ?_
  refine SL_cons ?_ ?_ ?_
  exact (SE_gv (i := 9) rfl hG.v_GAIN rfl)
  exact SL_nil
  exact rfl
  exact SL_nil
  exact rfl
  exact rfl
  refine SL_cons ?_ ?_ ?_
  refine SE_tup ?_
  refine SL_cons ?_ ?_ ?_
  exact (SE_gv (i := 8) rfl hG.v_EMIT rfl)
  refine SL_cons ?_ ?_ ?_
  refine SE_tup ?_
  refine SL_cons ?_ ?_ ?_
  exact (SE_gv (i := 10) rfl hG.v_JUMP rfl)
  refine SL_cons ?_ ?_ ?_
  exact (SE_loc (i := 2) (k := .local) rfl nofun)
  exact SL_nil
  exact rfl
  exact rfl
  exact SL_nil
  exact rfl
  exact rfl
  refine SL_cons ?_ ?_ ?_
  refine SE_tup ?_
  refine SL_cons ?_ ?_ ?_
  exact (SE_gv (i := 11) rfl hG.v_MEET rfl)
  refine SL_cons ?_ ?_ ?_
  refine SE_list ?_
  refine SL_cons ?_ ?_ ?_
  exact (SE_loc (i := 2) (k := .local) rfl nofun)
  refine SL_cons ?_ ?_ ?_
  refine SE_list ?_
  refine SL_cons ?_ ?_ ?_
  exact (SE_loc (i := 3) (k := .local) rfl nofun)
  exact SL_nil
  exact rfl
  exact SL_nil
  exact rfl
  exact rfl
  exact SL_nil
  exact rfl
  exact rfl
  exact SL_nil
  exact rfl
  exact rfl
  exact rfl
  exact rfl
  exact SSs_nil

noncomputable def B_PatternCode_bound_1 : ST := (sCons (sSet (pAttr 0 (pLoc 0)) (pLoc 3) (pTup (pCons (pVal (V.str [106, 117, 109, 112])) (pCons (pBlt bLen (pCons (pAttr 0 (pLoc 0)) pNil)) pNil))))
    sNil)
noncomputable def P_PatternCode_bound : ST := (sCons (sIf (tCmp bEq (pLoc 1) (pVal (V.str [111, 112, 101, 110]))) (sCons (sSet (pLoc 2) (pVal (V.int 0)) (pMeth 18 (pLoc 0) (pCons (pVal (V.none)) pNil)))
    sNil) (sCons (sIf (tCmp bEq (pLoc 1) (pVal (V.str [115, 104, 117, 116]))) (sCons (sExp (pLm bAppend (pOp2 bIdx (pLoc 2) (pVal (V.int 1))) (pCons (pMeth 18 (pLoc 0) (pCons (pVal (V.none)) pNil)) pNil)))
    (sCons (sSet (pAttr 0 (pLoc 0)) (pOp2 bIdx (pLoc 2) (pVal (V.int 0))) (pTup (pCons (pVal (V.str [115, 112, 108, 105, 116])) (pCons (pBlt bLen (pCons (pAttr 0 (pLoc 0)) pNil)) pNil))))
    sNil)) (sCons (sFor 3 (pOp2 bIdx (pLoc 2) (pVal (V.int 1))) B_PatternCode_bound_1)
    sNil))
    sNil))
    sNil)
set_option maxHeartbeats 4000000 in
theorem S_PatternCode_bound {c : Cx} (hG : Gl c) : SSs c (fdN (subs 26 6)) (fdB (subs 26 6)) P_PatternCode_bound := by
  refine SSs_cons ?_ ?_
  refine SS_if ?_ ?_ ?_
  refine SB_cmp ?_ ?_ ?_ ?_
  exact (SE_loc (i := 1) (k := .local) rfl nofun)
  exact (SE_gv (i := 4) rfl hG.v_OPEN rfl)
  exact SCmp_eq
  exact rfl
  refine SSs_cons ?_ ?_
  refine SS_set ?_ ?_ ?_ ?_
  exact (SE_loc (i := 2) (k := .local) rfl nofun)
  exact SE_intV
  refine SE_meth (k := 18) ?_ ?_ ?_ ?_ ?_
  exact (SE_loc (i := 0) (k := .local) rfl nofun)
  refine SL_cons ?_ ?_ ?_
  exact SE_noneV
  exact SL_nil
  exact rfl
  exact rfl
  exact (fun _ => rfl)
  exact rfl
  exact rfl
  exact SSs_nil
  refine SSs_cons ?_ ?_
  refine SS_if ?_ ?_ ?_
  refine SB_cmp ?_ ?_ ?_ ?_
  exact (SE_loc (i := 1) (k := .local) rfl nofun)
  exact (SE_gv (i := 5) rfl hG.v_SHUT rfl)
  exact SCmp_eq
  exact rfl
  refine SSs_cons ?_ ?_
  refine SS_exp ?_ ?_
  refine SE_lm (id := "list.append") ?_ ?_ ?_ ?_ ?_ ?_ ?_
  refine SE_sub ?_ ?_ ?_
  exact (SE_loc (i := 2) (k := .local) rfl nofun)
  exact SE_intV
  exact rfl
  refine SL_cons ?_ ?_ ?_
  refine SE_meth (k := 18) ?_ ?_ ?_ ?_ ?_
  exact (SE_loc (i := 0) (k := .local) rfl nofun)
  refine SL_cons ?_ ?_ ?_
  exact SE_noneV
  exact SL_nil
  exact rfl
  exact rfl
  exact (fun _ => rfl)
  exact rfl
  exact SL_nil
  exact rfl
  exact SC_append
  exact PySem.F.slot_list_append
  exact PySem.F.type_list_append
  exact (fun _ => rfl)
  exact rfl
  exact rfl
  refine SSs_cons ?_ ?_
  refine SS_set ?_ ?_ ?_ ?_
  refine SE_attr (k := 0) ?_ ?_ ?_
  exact (SE_loc (i := 0) (k := .local) rfl nofun)
  exact (fun _ _ => rfl)
  exact rfl
  refine SE_sub ?_ ?_ ?_
  exact (SE_loc (i := 2) (k := .local) rfl nofun)
  exact SE_intV
  exact rfl
  refine SE_tup ?_
  refine SL_cons ?_ ?_ ?_
  exact (SE_gv (i := 6) rfl hG.v_SPLIT rfl)
  refine SL_cons ?_ ?_ ?_
  refine SE_blt (i := 7) (fv := .builtin "len") ?_ ?_ ?_ ?_ ?_ ?_ ?_ ?_
  exact rfl
  exact hG.b_len.1
  exact hG.b_len.2
  exact SC_len
  refine SL_cons ?_ ?_ ?_
  refine SE_attr (k := 0) ?_ ?_ ?_
  exact (SE_loc (i := 0) (k := .local) rfl nofun)
  exact (fun _ _ => rfl)
  exact rfl
  exact SL_nil
  exact rfl
  exact rfl
  exact rfl
  exact (.inl ⟨_, rfl⟩)
  exact SL_nil
  exact rfl
  exact rfl
  exact rfl
  exact SSs_nil
  refine SSs_cons ?_ ?_
  refine SS_for (i := 3) (k := .local) ?_ ?_ ?_ ?_ ?_ ?_
  refine SE_sub ?_ ?_ ?_
  exact (SE_loc (i := 2) (k := .local) rfl nofun)
  exact SE_intV
  exact rfl
  refine SSs_cons ?_ ?_
  refine SS_set ?_ ?_ ?_ ?_
  refine SE_attr (k := 0) ?_ ?_ ?_
  exact (SE_loc (i := 0) (k := .local) rfl nofun)
  exact (fun _ _ => rfl)
  exact rfl
  exact (SE_loc (i := 3) (k := .local) rfl nofun)
  refine SE_tup ?_
  refine SL_cons ?_ ?_ ?_
  exact (SE_gv (i := 8) rfl hG.v_JUMP rfl)
  refine SL_cons ?_ ?_ ?_
  refine SE_blt (i := 7) (fv := .builtin "len") ?_ ?_ ?_ ?_ ?_ ?_ ?_ ?_
  exact rfl
  exact hG.b_len.1
  exact hG.b_len.2
  exact SC_len
  refine SL_cons ?_ ?_ ?_
  refine SE_attr (k := 0) ?_ ?_ ?_
  exact (SE_loc (i := 0) (k := .local) rfl nofun)
  exact (fun _ _ => rfl)
  exact rfl
  exact SL_nil
  exact rfl
  exact rfl
  exact rfl
  exact (.inl ⟨_, rfl⟩)
  exact SL_nil
  exact rfl
  exact rfl
  exact rfl
  exact SSs_nil
  exact rfl
  exact (.inl rfl)
  exact rfl
  exact (fun _ _ => rfl)
  exact SSs_nil
  exact SSs_nil
  exact SSs_nil

noncomputable def T_straightened_1 : pTest := (tCmp bEq (pOp2 bIdx (pOp2 bIdx (pLoc 0) (pLoc 3)) (pVal (V.int 0))) (pVal (V.str [106, 117, 109, 112])))
noncomputable def B_straightened_2 : ST := (sCons (sAsg 3 (pOp2 bIdx (pOp2 bIdx (pLoc 0) (pLoc 3)) (pVal (V.int 1))))
    sNil)
noncomputable def B_straightened_3 : ST := (sCons (sIf (tCmp bIn (pOp2 bIdx (pLoc 2) (pVal (V.int 0))) (pTup (pCons (pVal (V.str [106, 117, 109, 112])) (pCons (pVal (V.str [115, 112, 108, 105, 116])) pNil)))) (sCons (sAsg 3 (pOp2 bIdx (pLoc 2) (pVal (V.int 1))))
    (sCons (sWhile T_straightened_1 B_straightened_2)
    (sCons (sAsg 2 (pTup (pCons (pOp2 bIdx (pLoc 2) (pVal (V.int 0))) (pCons (pLoc 3) pNil))))
    sNil))) sNil)
    (sCons (sExp (pLm bAppend (pLoc 1) (pCons (pLoc 2) pNil)))
    sNil))
noncomputable def P_straightened : ST := (sCons (sAsg 1 (pList pNil))
    (sCons (sFor 2 (pLoc 0) B_straightened_3)
    (sCons (sRet (pLoc 1))
    sNil)))
set_option maxHeartbeats 4000000 in
theorem S_straightened {c : Cx} (hG : Gl c) : SSs c (fdN (tops 27)) (fdB (tops 27)) P_straightened := by
  refine SSs_cons ?_ ?_
  refine SS_asg (i := 1) (k := .local) ?_ ?_ ?_ ?_ ?_
  refine SE_list ?_
  exact SL_nil
  exact rfl
  exact (.inl rfl)
  exact rfl
  exact (.inl rfl)
  refine SSs_cons ?_ ?_
  refine SS_for (i := 2) (k := .local) ?_ ?_ ?_ ?_ ?_ ?_
  exact (SE_loc (i := 0) (k := .local) rfl nofun)
  refine SSs_cons ?_ ?_
  refine SS_if ?_ ?_ ?_
  refine SB_cmp ?_ ?_ ?_ ?_
  refine SE_sub ?_ ?_ ?_
  exact (SE_loc (i := 2) (k := .local) rfl nofun)
  exact SE_intV
  exact rfl
  refine SE_tup ?_
  refine SL_cons ?_ ?_ ?_
  exact (SE_gv (i := 4) rfl hG.v_JUMP rfl)
  refine SL_cons ?_ ?_ ?_
  exact (SE_gv (i := 5) rfl hG.v_SPLIT rfl)
  exact SL_nil
  exact rfl
  exact rfl
  exact SCmp_in
  exact rfl
  refine SSs_cons ?_ ?_
  refine SS_asg (i := 3) (k := .local) ?_ ?_ ?_ ?_ ?_
  refine SE_sub ?_ ?_ ?_
  exact (SE_loc (i := 2) (k := .local) rfl nofun)
  exact SE_intV
  exact rfl
  exact rfl
  exact (.inl rfl)
  exact rfl
  exact (.inl rfl)
  refine SSs_cons ?_ ?_
  refine SS_while ?_ ?_
  refine SB_cmp ?_ ?_ ?_ ?_
  refine SE_sub ?_ ?_ ?_
  refine SE_sub ?_ ?_ ?_
  exact (SE_loc (i := 0) (k := .local) rfl nofun)
  exact (SE_loc (i := 3) (k := .local) rfl nofun)
  exact rfl
  exact SE_intV
  exact rfl
  exact (SE_gv (i := 4) rfl hG.v_JUMP rfl)
  exact SCmp_eq
  exact rfl
  refine SSs_cons ?_ ?_
  refine SS_asg (i := 3) (k := .local) ?_ ?_ ?_ ?_ ?_
  refine SE_sub ?_ ?_ ?_
  refine SE_sub ?_ ?_ ?_
  exact (SE_loc (i := 0) (k := .local) rfl nofun)
  exact (SE_loc (i := 3) (k := .local) rfl nofun)
  exact rfl
  exact SE_intV
  exact rfl
  exact rfl
  exact (.inl rfl)
  exact rfl
  exact (.inl rfl)
  exact SSs_nil
  refine SSs_cons ?_ ?_
  refine SS_asg (i := 2) (k := .local) ?_ ?_ ?_ ?_ ?_
  refine SE_tup ?_
  refine SL_cons ?_ ?_ ?_
  refine SE_sub ?_ ?_ ?_
  exact (SE_loc (i := 2) (k := .local) rfl nofun)
  exact SE_intV
  exact rfl
  refine SL_cons ?_ ?_ ?_
  exact (SE_loc (i := 3) (k := .local) rfl nofun)
  exact SL_nil
  exact rfl
  exact rfl
  exact rfl
  exact (.inl rfl)
  exact rfl
  exact (.inl rfl)
  exact SSs_nil
  exact SSs_nil
  refine SSs_cons ?_ ?_
  refine SS_exp ?_ ?_
  refine SE_lm (id := "list.append") ?_ ?_ ?_ ?_ ?_ ?_ ?_
  exact (SE_loc (i := 1) (k := .local) rfl nofun)
  refine SL_cons ?_ ?_ ?_
  exact (SE_loc (i := 2) (k := .local) rfl nofun)
  exact SL_nil
  exact rfl
  exact SC_append
  exact PySem.F.slot_list_append
  exact PySem.F.type_list_append
  exact (fun _ => rfl)
  exact rfl
  exact rfl
  exact SSs_nil
  exact rfl
  exact (.inl rfl)
  exact rfl
  exact (fun _ _ => rfl)
  refine SSs_cons ?_ ?_
  refine SS_ret ?_
  exact (SE_loc (i := 1) (k := .local) rfl nofun)
  exact SSs_nil

noncomputable def P_compile_pattern : ST := (sCons (sAsg 1 (pCall 94 pNil))
    (sCons (sExp (pMeth 19 (pLoc 1) (pCons (pLoc 0) pNil)))
    (sCons (sExp (pMeth 18 (pLoc 1) (pCons (pTup (pCons (pVal (V.str [100, 111, 110, 101])) pNil)) pNil)))
    (sCons (sRet (pCall 105 (pCons (pAttr 0 (pLoc 1)) pNil)))
    sNil))))
set_option maxHeartbeats 4000000 in
theorem S_compile_pattern {c : Cx} (hG : Gl c) : SSs c (fdN (tops 28)) (fdB (tops 28)) P_compile_pattern := by
  refine SSs_cons ?_ ?_
  refine SS_asg (i := 1) (k := .local) ?_ ?_ ?_ ?_ ?_
  refine SE_call (i := 2) ?_ ?_ ?_ ?_ ?_ ?_
  exact rfl
  exact hG.f_PatternCode.1
  exact hG.f_PatternCode.2
  exact SL_nil
  exact rfl
  exact rfl
  exact rfl
  exact (.inl rfl)
  exact rfl
  exact (.inl rfl)
  refine SSs_cons ?_ ?_
  refine SS_exp ?_ ?_
  refine SE_meth (k := 19) ?_ ?_ ?_ ?_ ?_
  exact (SE_loc (i := 1) (k := .local) rfl nofun)
  refine SL_cons ?_ ?_ ?_
  exact (SE_loc (i := 0) (k := .local) rfl nofun)
  exact SL_nil
  exact rfl
  exact rfl
  exact (fun _ => rfl)
  exact rfl
  exact rfl
  refine SSs_cons ?_ ?_
  refine SS_exp ?_ ?_
  refine SE_meth (k := 18) ?_ ?_ ?_ ?_ ?_
  exact (SE_loc (i := 1) (k := .local) rfl nofun)
  refine SL_cons ?_ ?_ ?_
  refine SE_tup ?_
  refine SL_cons ?_ ?_ ?_
  exact (SE_gv (i := 3) rfl hG.v_DONE rfl)
  exact SL_nil
  exact rfl
  exact SL_nil
  exact rfl
  exact rfl
  exact (fun _ => rfl)
  exact rfl
  exact rfl
  refine SSs_cons ?_ ?_
  refine SS_ret ?_
  refine SE_call (i := 4) ?_ ?_ ?_ ?_ ?_ ?_
  exact rfl
  exact hG.f_straightened.1
  exact hG.f_straightened.2
  refine SL_cons ?_ ?_ ?_
  refine SE_attr (k := 0) ?_ ?_ ?_
  exact (SE_loc (i := 1) (k := .local) rfl nofun)
  exact (fun _ _ => rfl)
  exact rfl
  exact SL_nil
  exact rfl
  exact rfl
  exact rfl
  exact SSs_nil

noncomputable def P_NameRef_init : ST := (sCons (sPut 15 (pLoc 0) (pLoc 1))
    (sCons (sPut 16 (pLoc 0) (pLoc 2))
    (sCons (sPut 17 (pLoc 0) (pLoc 3))
    sNil)))
set_option maxHeartbeats 4000000 in
theorem S_NameRef_init {c : Cx} (hG : Gl c) : SSs c (fdN (subs 34 0)) (fdB (subs 34 0)) P_NameRef_init := by
  refine SSs_cons ?_ ?_
  refine SS_put (k := 15) ?_ ?_ ?_ ?_
  exact (SE_loc (i := 0) (k := .local) rfl nofun)
  exact (SE_loc (i := 1) (k := .local) rfl nofun)
  exact rfl
  exact rfl
  refine SSs_cons ?_ ?_
  refine SS_put (k := 16) ?_ ?_ ?_ ?_
  exact (SE_loc (i := 0) (k := .local) rfl nofun)
  exact (SE_loc (i := 2) (k := .local) rfl nofun)
  exact rfl
  exact rfl
  refine SSs_cons ?_ ?_
  refine SS_put (k := 17) ?_ ?_ ?_ ?_
  exact (SE_loc (i := 0) (k := .local) rfl nofun)
  exact (SE_loc (i := 3) (k := .local) rfl nofun)
  exact rfl
  exact rfl
  exact SSs_nil

noncomputable def P_chars_end : ST := (sCons (sAsg 3 (pOp2 (bAr .Add) (pLoc 1) (pBlt bLen (pCons (pLoc 2) pNil))))
    (sCons (sRet (pIf (tCmp bEq (pSl (pLoc 0) (pLoc 1) (pLoc 3) (pVal V.none)) (pLoc 2)) (pLoc 3) (pVal (V.none))))
    sNil))
set_option maxHeartbeats 4000000 in
theorem S_chars_end {c : Cx} (hG : Gl c) : SSs c (fdN (tops 54)) (fdB (tops 54)) P_chars_end := by
  refine SSs_cons ?_ ?_
  refine SS_asg (i := 3) (k := .local) ?_ ?_ ?_ ?_ ?_
  refine SE_bin ?_ ?_ ?_
  exact (SE_loc (i := 1) (k := .local) rfl nofun)
  refine SE_blt (i := 4) (fv := .builtin "len") ?_ ?_ ?_ ?_ ?_ ?_ ?_ ?_
  exact rfl
  exact hG.b_len.1
  exact hG.b_len.2
  exact SC_len
  refine SL_cons ?_ ?_ ?_
  exact (SE_loc (i := 2) (k := .local) rfl nofun)
  exact SL_nil
  exact rfl
  exact rfl
  exact rfl
  exact (.inl ⟨_, rfl⟩)
  exact (SOp2_ar .Add)
  exact rfl
  exact (.inl rfl)
  exact rfl
  exact (.inl rfl)
  refine SSs_cons ?_ ?_
  refine SS_ret ?_
  refine SE_ifexp ?_ ?_ ?_
  refine SB_cmp ?_ ?_ ?_ ?_
  refine SE_slice ?_ ?_ ?_ ?_
  exact (SE_loc (i := 0) (k := .local) rfl nofun)
  refine SP_some ?_
  exact (SE_loc (i := 1) (k := .local) rfl nofun)
  refine SP_some ?_
  exact (SE_loc (i := 3) (k := .local) rfl nofun)
  exact SP_none
  exact (SE_loc (i := 2) (k := .local) rfl nofun)
  exact SCmp_eq
  exact rfl
  exact (SE_loc (i := 3) (k := .local) rfl nofun)
  exact SE_noneV
  exact SSs_nil

noncomputable def P_len_end : ST := (sCons (sRet (pIf (tCmp (bLt .LtE) (pOp2 (bAr .Add) (pLoc 1) (pLoc 2)) (pBlt bLen (pCons (pLoc 0) pNil))) (pOp2 (bAr .Add) (pLoc 1) (pLoc 2)) (pVal (V.none))))
    sNil)
set_option maxHeartbeats 4000000 in
theorem S_len_end {c : Cx} (hG : Gl c) : SSs c (fdN (tops 55)) (fdB (tops 55)) P_len_end := by
  refine SSs_cons ?_ ?_
  refine SS_ret ?_
  refine SE_ifexp ?_ ?_ ?_
  refine SB_cmp ?_ ?_ ?_ ?_
  refine SE_bin ?_ ?_ ?_
  exact (SE_loc (i := 1) (k := .local) rfl nofun)
  exact (SE_loc (i := 2) (k := .local) rfl nofun)
  exact (SOp2_ar .Add)
  refine SE_blt (i := 3) (fv := .builtin "len") ?_ ?_ ?_ ?_ ?_ ?_ ?_ ?_
  exact rfl
  exact hG.b_len.1
  exact hG.b_len.2
  exact SC_len
  refine SL_cons ?_ ?_ ?_
  exact (SE_loc (i := 0) (k := .local) rfl nofun)
  exact SL_nil
  exact rfl
  exact rfl
  exact rfl
  exact (.inl ⟨_, rfl⟩)
  exact (SCmp_lt .LtE)
  exact rfl
  refine SE_bin ?_ ?_ ?_
  exact (SE_loc (i := 1) (k := .local) rfl nofun)
  exact (SE_loc (i := 2) (k := .local) rfl nofun)
  exact (SOp2_ar .Add)
  exact SE_noneV
  exact SSs_nil

noncomputable def P_pos_end : ST := (sCons (sRet (pIf (tCmp bEq (pLoc 0) (pLoc 1)) (pLoc 0) (pVal (V.none))))
    sNil)
set_option maxHeartbeats 4000000 in
theorem S_pos_end {c : Cx} (hG : Gl c) : SSs c (fdN (tops 56)) (fdB (tops 56)) P_pos_end := by
  refine SSs_cons ?_ ?_
  refine SS_ret ?_
  refine SE_ifexp ?_ ?_ ?_
  refine SB_cmp ?_ ?_ ?_ ?_
  exact (SE_loc (i := 0) (k := .local) rfl nofun)
  exact (SE_loc (i := 1) (k := .local) rfl nofun)
  exact SCmp_eq
  exact rfl
  exact (SE_loc (i := 0) (k := .local) rfl nofun)
  exact SE_noneV
  exact SSs_nil

noncomputable def P_tab_end : ST := (sCons (sRet (pIf (tChain (bLt .LtE) (bLt .LtE) (pLoc 1) (pLoc 2) (pBlt bLen (pCons (pLoc 0) pNil))) (pLoc 2) (pVal (V.none))))
    sNil)
set_option maxHeartbeats 4000000 in
theorem S_tab_end {c : Cx} (hG : Gl c) : SSs c (fdN (tops 58)) (fdB (tops 58)) P_tab_end := by
  refine SSs_cons ?_ ?_
  refine SS_ret ?_
  refine SE_ifexp ?_ ?_ ?_
  refine SB_chain ?_ ?_ ?_ ?_ ?_ ?_
  exact (SE_loc (i := 1) (k := .local) rfl nofun)
  exact (SE_loc (i := 2) (k := .local) rfl nofun)
  refine SE_blt (i := 3) (fv := .builtin "len") ?_ ?_ ?_ ?_ ?_ ?_ ?_ ?_
  exact rfl
  exact hG.b_len.1
  exact hG.b_len.2
  exact SC_len
  refine SL_cons ?_ ?_ ?_
  exact (SE_loc (i := 0) (k := .local) rfl nofun)
  exact SL_nil
  exact rfl
  exact rfl
  exact rfl
  exact (.inl ⟨_, rfl⟩)
  exact (SCmp_lt .LtE)
  exact (SCmp_lt .LtE)
  exact rfl
  exact (SE_loc (i := 2) (k := .local) rfl nofun)
  exact SE_noneV
  exact SSs_nil

noncomputable def P_rem_end : ST := (sCons (sRet (pBlt bLen (pCons (pLoc 0) pNil)))
    sNil)
set_option maxHeartbeats 4000000 in
theorem S_rem_end {c : Cx} (hG : Gl c) : SSs c (fdN (tops 60)) (fdB (tops 60)) P_rem_end := by
  refine SSs_cons ?_ ?_
  refine SS_ret ?_
  refine SE_blt (i := 1) (fv := .builtin "len") ?_ ?_ ?_ ?_ ?_ ?_ ?_ ?_
  exact rfl
  exact hG.b_len.1
  exact hG.b_len.2
  exact SC_len
  refine SL_cons ?_ ?_ ?_
  exact (SE_loc (i := 0) (k := .local) rfl nofun)
  exact SL_nil
  exact rfl
  exact rfl
  exact rfl
  exact (.inl ⟨_, rfl⟩)
  exact SSs_nil

noncomputable def P_any_at : ST := (sCons (sRet (pIf (tAnd (tCmp (bLt .Lt) (pLoc 1) (pBlt bLen (pCons (pLoc 0) pNil))) (tCmp bIn (pOp2 bIdx (pLoc 0) (pLoc 1)) (pLoc 2))) (pOp2 (bAr .Add) (pLoc 1) (pVal (V.int 1))) (pVal (V.none))))
    sNil)
set_option maxHeartbeats 4000000 in
theorem S_any_at {c : Cx} (hG : Gl c) : SSs c (fdN (tops 61)) (fdB (tops 61)) P_any_at := by
  refine SSs_cons ?_ ?_
  refine SS_ret ?_
  refine SE_ifexp ?_ ?_ ?_
  refine SB_and ?_ ?_
  refine SB_cmp ?_ ?_ ?_ ?_
  exact (SE_loc (i := 1) (k := .local) rfl nofun)
  refine SE_blt (i := 3) (fv := .builtin "len") ?_ ?_ ?_ ?_ ?_ ?_ ?_ ?_
  exact rfl
  exact hG.b_len.1
  exact hG.b_len.2
  exact SC_len
  refine SL_cons ?_ ?_ ?_
  exact (SE_loc (i := 0) (k := .local) rfl nofun)
  exact SL_nil
  exact rfl
  exact rfl
  exact rfl
  exact (.inl ⟨_, rfl⟩)
  exact (SCmp_lt .Lt)
  exact rfl
  refine SB_cmp ?_ ?_ ?_ ?_
  refine SE_sub ?_ ?_ ?_
  exact (SE_loc (i := 0) (k := .local) rfl nofun)
  exact (SE_loc (i := 1) (k := .local) rfl nofun)
  exact rfl
  exact (SE_loc (i := 2) (k := .local) rfl nofun)
  exact SCmp_in
  exact rfl
  refine SE_bin ?_ ?_ ?_
  exact (SE_loc (i := 1) (k := .local) rfl nofun)
  exact SE_intV
  exact (SOp2_ar .Add)
  exact SE_noneV
  exact SSs_nil

noncomputable def P_notany_at : ST := (sCons (sRet (pIf (tAnd (tCmp (bLt .Lt) (pLoc 1) (pBlt bLen (pCons (pLoc 0) pNil))) (tCmp bNotIn (pOp2 bIdx (pLoc 0) (pLoc 1)) (pLoc 2))) (pOp2 (bAr .Add) (pLoc 1) (pVal (V.int 1))) (pVal (V.none))))
    sNil)
set_option maxHeartbeats 4000000 in
theorem S_notany_at {c : Cx} (hG : Gl c) : SSs c (fdN (tops 62)) (fdB (tops 62)) P_notany_at := by
  refine SSs_cons ?_ ?_
  refine SS_ret ?_
  refine SE_ifexp ?_ ?_ ?_
  refine SB_and ?_ ?_
  refine SB_cmp ?_ ?_ ?_ ?_
  exact (SE_loc (i := 1) (k := .local) rfl nofun)
  refine SE_blt (i := 3) (fv := .builtin "len") ?_ ?_ ?_ ?_ ?_ ?_ ?_ ?_
  exact rfl
  exact hG.b_len.1
  exact hG.b_len.2
  exact SC_len
  refine SL_cons ?_ ?_ ?_
  exact (SE_loc (i := 0) (k := .local) rfl nofun)
  exact SL_nil
  exact rfl
  exact rfl
  exact rfl
  exact (.inl ⟨_, rfl⟩)
  exact (SCmp_lt .Lt)
  exact rfl
  refine SB_cmp ?_ ?_ ?_ ?_
  refine SE_sub ?_ ?_ ?_
  exact (SE_loc (i := 0) (k := .local) rfl nofun)
  exact (SE_loc (i := 1) (k := .local) rfl nofun)
  exact rfl
  exact (SE_loc (i := 2) (k := .local) rfl nofun)
  exact SCmp_notIn
  exact rfl
  refine SE_bin ?_ ?_ ?_
  exact (SE_loc (i := 1) (k := .local) rfl nofun)
  exact SE_intV
  exact (SOp2_ar .Add)
  exact SE_noneV
  exact SSs_nil

noncomputable def P_arb_ends : ST := (sCons (sRet (pRangeL (pLoc 1) (pOp2 (bAr .Add) (pBlt bLen (pCons (pLoc 0) pNil)) (pVal (V.int 1)))))
    sNil)
set_option maxHeartbeats 4000000 in
theorem S_arb_ends {c : Cx} (hG : Gl c) : SSs c (fdN (tops 66)) (fdB (tops 66)) P_arb_ends := by
  refine SSs_cons ?_ ?_
  refine SS_ret ?_
  refine SE_rangeL (i := 2) (j := 3) ?_ ?_ ?_ ?_ ?_ ?_ ?_ ?_ ?_ ?_ ?_ ?_
  exact rfl
  exact hG.b_list.1
  exact hG.b_list.2
  exact rfl
  exact hG.b_range.1
  exact hG.b_range.2
  exact (SE_loc (i := 1) (k := .local) rfl nofun)
  refine SE_bin ?_ ?_ ?_
  refine SE_blt (i := 4) (fv := .builtin "len") ?_ ?_ ?_ ?_ ?_ ?_ ?_ ?_
  exact rfl
  exact hG.b_len.1
  exact hG.b_len.2
  exact SC_len
  refine SL_cons ?_ ?_ ?_
  exact (SE_loc (i := 0) (k := .local) rfl nofun)
  exact SL_nil
  exact rfl
  exact rfl
  exact rfl
  exact (.inl ⟨_, rfl⟩)
  exact SE_intV
  exact (SOp2_ar .Add)
  exact rfl
  exact rfl
  exact rfl
  exact rfl
  exact SSs_nil

noncomputable def T_bal_end_1 : pTest := (tCmp (bLt .Lt) (pLoc 1) (pBlt bLen (pCons (pLoc 0) pNil)))
noncomputable def B_bal_end_2 : ST := (sCons (sIf (tCmp bEq (pOp2 bIdx (pLoc 0) (pLoc 1)) (pVal (V.str [40]))) (sCons (sAug 2 .Add (pVal (V.int 1)))
    sNil) (sCons (sIf (tCmp bEq (pOp2 bIdx (pLoc 0) (pLoc 1)) (pVal (V.str [41]))) (sCons (sAug 2 .Sub (pVal (V.int 1)))
    sNil) sNil)
    sNil))
    (sCons (sAug 1 .Add (pVal (V.int 1)))
    (sCons (sIf (tCmp (bLt .Lt) (pLoc 2) (pVal (V.int 0))) (sCons (sRet (pVal (V.none)))
    sNil) sNil)
    (sCons (sIf (tCmp bEq (pLoc 2) (pVal (V.int 0))) (sCons (sRet (pLoc 1))
    sNil) sNil)
    sNil))))
noncomputable def P_bal_end : ST := (sCons (sAsg 2 (pVal (V.int 0)))
    (sCons (sWhile T_bal_end_1 B_bal_end_2)
    (sCons (sRet (pVal (V.none)))
    sNil)))
set_option maxHeartbeats 4000000 in
theorem S_bal_end {c : Cx} (hG : Gl c) : SSs c (fdN (tops 67)) (fdB (tops 67)) P_bal_end := by
  refine SSs_cons ?_ ?_
  refine SS_asg (i := 2) (k := .local) ?_ ?_ ?_ ?_ ?_
  exact SE_intV
  exact rfl
  exact (.inl rfl)
  exact rfl
  exact (.inl rfl)
  refine SSs_cons ?_ ?_
  refine SS_while ?_ ?_
  refine SB_cmp ?_ ?_ ?_ ?_
  exact (SE_loc (i := 1) (k := .local) rfl nofun)
  refine SE_blt (i := 3) (fv := .builtin "len") ?_ ?_ ?_ ?_ ?_ ?_ ?_ ?_
  exact rfl
  exact hG.b_len.1
  exact hG.b_len.2
  exact SC_len
  refine SL_cons ?_ ?_ ?_
  exact (SE_loc (i := 0) (k := .local) rfl nofun)
  exact SL_nil
  exact rfl
  exact rfl
  exact rfl
  exact (.inl ⟨_, rfl⟩)
  exact (SCmp_lt .Lt)
  exact rfl
  refine SSs_cons ?_ ?_
  refine SS_if ?_ ?_ ?_
  refine SB_cmp ?_ ?_ ?_ ?_
  refine SE_sub ?_ ?_ ?_
  exact (SE_loc (i := 0) (k := .local) rfl nofun)
  exact (SE_loc (i := 1) (k := .local) rfl nofun)
  exact rfl
  exact (SE_gv (i := 4) rfl hG.v_OPENING rfl)
  exact SCmp_eq
  exact rfl
  refine SSs_cons ?_ ?_
  refine SS_aug (i := 2) (k := .local) ?_ ?_ ?_ ?_
  exact SE_intV
  exact rfl
  exact (.inl rfl)
  exact rfl
  exact SSs_nil
  refine SSs_cons ?_ ?_
  refine SS_if ?_ ?_ ?_
  refine SB_cmp ?_ ?_ ?_ ?_
  refine SE_sub ?_ ?_ ?_
  exact (SE_loc (i := 0) (k := .local) rfl nofun)
  exact (SE_loc (i := 1) (k := .local) rfl nofun)
  exact rfl
  exact (SE_gv (i := 5) rfl hG.v_CLOSING rfl)
  exact SCmp_eq
  exact rfl
  refine SSs_cons ?_ ?_
  refine SS_aug (i := 2) (k := .local) ?_ ?_ ?_ ?_
  exact SE_intV
  exact rfl
  exact (.inl rfl)
  exact rfl
  exact SSs_nil
  exact SSs_nil
  exact SSs_nil
  refine SSs_cons ?_ ?_
  refine SS_aug (i := 1) (k := .local) ?_ ?_ ?_ ?_
  exact SE_intV
  exact rfl
  exact (.inl rfl)
  exact rfl
  refine SSs_cons ?_ ?_
  refine SS_if ?_ ?_ ?_
  refine SB_cmp ?_ ?_ ?_ ?_
  exact (SE_loc (i := 2) (k := .local) rfl nofun)
  exact SE_intV
  exact (SCmp_lt .Lt)
  exact rfl
  refine SSs_cons ?_ ?_
  refine SS_ret ?_
  exact SE_noneV
  exact SSs_nil
  exact SSs_nil
  refine SSs_cons ?_ ?_
  refine SS_if ?_ ?_ ?_
  refine SB_cmp ?_ ?_ ?_ ?_
  exact (SE_loc (i := 2) (k := .local) rfl nofun)
  exact SE_intV
  exact SCmp_eq
  exact rfl
  refine SSs_cons ?_ ?_
  refine SS_ret ?_
  exact (SE_loc (i := 1) (k := .local) rfl nofun)
  exact SSs_nil
  exact SSs_nil
  exact SSs_nil
  refine SSs_cons ?_ ?_
  refine SS_ret ?_
  exact SE_noneV
  exact SSs_nil

noncomputable def T_bal_ends_1 : pTest := (tCmp (bIs false) (pLoc 3) (pVal (V.none)))
noncomputable def B_bal_ends_2 : ST := (sCons (sExp (pLm bAppend (pLoc 2) (pCons (pLoc 3) pNil)))
    (sCons (sAsg 3 (pCall 397 (pCons (pLoc 0) (pCons (pLoc 3) pNil))))
    sNil))
noncomputable def P_bal_ends : ST := (sCons (sSwap 2 3 (pTup (pCons (pList pNil) (pCons (pCall 397 (pCons (pLoc 0) (pCons (pLoc 1) pNil))) pNil))))
    (sCons (sWhile T_bal_ends_1 B_bal_ends_2)
    (sCons (sRet (pLoc 2))
    sNil)))
set_option maxHeartbeats 4000000 in
theorem S_bal_ends {c : Cx} (hG : Gl c) : SSs c (fdN (tops 68)) (fdB (tops 68)) P_bal_ends := by
  refine SSs_cons ?_ ?_
  refine SS_swap (i := 2) (j := 3) ?_ ?_ ?_ ?_ ?_ ?_ ?_
  refine SE_tup ?_
  refine SL_cons ?_ ?_ ?_
  refine SE_list ?_
  exact SL_nil
  refine SL_cons ?_ ?_ ?_
  refine SE_call (i := 4) ?_ ?_ ?_ ?_ ?_ ?_
  exact rfl
  exact hG.f_bal_end.1
  exact hG.f_bal_end.2
  refine SL_cons ?_ ?_ ?_
  exact (SE_loc (i := 0) (k := .local) rfl nofun)
  refine SL_cons ?_ ?_ ?_
  exact (SE_loc (i := 1) (k := .local) rfl nofun)
  exact SL_nil
  exact rfl
  exact rfl
  exact rfl
  exact rfl
  exact SL_nil
  exact rfl
  exact rfl
  exact rfl
  exact rfl
  exact rfl
  exact rfl
  exact rfl
  exact (swap_two rfl rfl rfl rfl rfl rfl)
  refine SSs_cons ?_ ?_
  refine SS_while ?_ ?_
  refine SB_cmp ?_ ?_ ?_ ?_
  exact (SE_loc (i := 3) (k := .local) rfl nofun)
  exact SE_noneV
  exact SCmp_isnot
  exact rfl
  refine SSs_cons ?_ ?_
  refine SS_exp ?_ ?_
  refine SE_lm (id := "list.append") ?_ ?_ ?_ ?_ ?_ ?_ ?_
  exact (SE_loc (i := 2) (k := .local) rfl nofun)
  refine SL_cons ?_ ?_ ?_
  exact (SE_loc (i := 3) (k := .local) rfl nofun)
  exact SL_nil
  exact rfl
  exact SC_append
  exact PySem.F.slot_list_append
  exact PySem.F.type_list_append
  exact (fun _ => rfl)
  exact rfl
  exact rfl
  refine SSs_cons ?_ ?_
  refine SS_asg (i := 3) (k := .local) ?_ ?_ ?_ ?_ ?_
  refine SE_call (i := 4) ?_ ?_ ?_ ?_ ?_ ?_
  exact rfl
  exact hG.f_bal_end.1
  exact hG.f_bal_end.2
  refine SL_cons ?_ ?_ ?_
  exact (SE_loc (i := 0) (k := .local) rfl nofun)
  refine SL_cons ?_ ?_ ?_
  exact (SE_loc (i := 3) (k := .local) rfl nofun)
  exact SL_nil
  exact rfl
  exact rfl
  exact rfl
  exact rfl
  exact rfl
  exact (.inl rfl)
  exact rfl
  exact (.inl rfl)
  exact SSs_nil
  refine SSs_cons ?_ ?_
  refine SS_ret ?_
  exact (SE_loc (i := 2) (k := .local) rfl nofun)
  exact SSs_nil

noncomputable def P_one_end : ST := (sCons (sIf (tCmp bEq (pLoc 0) (pVal (V.str [99, 104, 97, 114, 115]))) (sCons (sRet (pCall 306 (pCons (pLoc 1) (pCons (pLoc 2) (pCons (pLoc 3) pNil)))))
    sNil) sNil)
    (sCons (sIf (tCmp bEq (pLoc 0) (pVal (V.str [108, 101, 110]))) (sCons (sRet (pCall 313 (pCons (pLoc 1) (pCons (pLoc 2) (pCons (pLoc 3) pNil)))))
    sNil) sNil)
    (sCons (sIf (tCmp bEq (pLoc 0) (pVal (V.str [112, 111, 115]))) (sCons (sRet (pCall 320 (pCons (pLoc 2) (pCons (pLoc 3) pNil))))
    sNil) sNil)
    (sCons (sIf (tCmp bEq (pLoc 0) (pVal (V.str [114, 112, 111, 115]))) (sCons (sRet (fun _ _ _ _ => False))
    sNil) sNil)
    (sCons (sIf (tCmp bEq (pLoc 0) (pVal (V.str [116, 97, 98]))) (sCons (sRet (pCall 334 (pCons (pLoc 1) (pCons (pLoc 2) (pCons (pLoc 3) pNil)))))
    sNil) sNil)
    (sCons (sIf (tCmp bEq (pLoc 0) (pVal (V.str [114, 116, 97, 98]))) (sCons (sRet (fun _ _ _ _ => False))
    sNil) sNil)
    (sCons (sIf (tCmp bEq (pLoc 0) (pVal (V.str [97, 110, 121]))) (sCons (sRet (pCall 355 (pCons (pLoc 1) (pCons (pLoc 2) (pCons (pLoc 3) pNil)))))
    sNil) sNil)
    (sCons (sIf (tCmp bEq (pLoc 0) (pVal (V.str [110, 111, 116, 97, 110, 121]))) (sCons (sRet (pCall 362 (pCons (pLoc 1) (pCons (pLoc 2) (pCons (pLoc 3) pNil)))))
    sNil) sNil)
    (sCons (sIf (tCmp bEq (pLoc 0) (pVal (V.str [115, 112, 97, 110]))) (sCons (sRet (fun _ _ _ _ => False))
    sNil) sNil)
    (sCons (sRet (fun _ _ _ _ => False))
    sNil))))))))))
set_option maxHeartbeats 4000000 in
theorem S_one_end {c : Cx} (hG : Gl c) : SSs c (fdN (tops 69)) (fdB (tops 69)) P_one_end := by
  refine SSs_cons ?_ ?_
  refine SS_if ?_ ?_ ?_
  refine SB_cmp ?_ ?_ ?_ ?_
  exact (SE_loc (i := 0) (k := .local) rfl nofun)
  exact (SE_strL (l := [99, 104, 97, 114, 115]) rfl)
  exact SCmp_eq
  exact rfl
  refine SSs_cons ?_ ?_
  refine SS_ret ?_
  refine SE_call (i := 4) ?_ ?_ ?_ ?_ ?_ ?_
  exact rfl
  exact hG.f_chars_end.1
  exact hG.f_chars_end.2
  refine SL_cons ?_ ?_ ?_
  exact (SE_loc (i := 1) (k := .local) rfl nofun)
  refine SL_cons ?_ ?_ ?_
  exact (SE_loc (i := 2) (k := .local) rfl nofun)
  refine SL_cons ?_ ?_ ?_
  exact (SE_loc (i := 3) (k := .local) rfl nofun)
  exact SL_nil
  exact rfl
  exact rfl
  exact rfl
  exact rfl
  exact rfl
  exact SSs_nil
  exact SSs_nil
  refine SSs_cons ?_ ?_
  refine SS_if ?_ ?_ ?_
  refine SB_cmp ?_ ?_ ?_ ?_
  exact (SE_loc (i := 0) (k := .local) rfl nofun)
  exact (SE_strL (l := [108, 101, 110]) rfl)
  exact SCmp_eq
  exact rfl
  refine SSs_cons ?_ ?_
  refine SS_ret ?_
  refine SE_call (i := 5) ?_ ?_ ?_ ?_ ?_ ?_
  exact rfl
  exact hG.f_len_end.1
  exact hG.f_len_end.2
  refine SL_cons ?_ ?_ ?_
  exact (SE_loc (i := 1) (k := .local) rfl nofun)
  refine SL_cons ?_ ?_ ?_
  exact (SE_loc (i := 2) (k := .local) rfl nofun)
  refine SL_cons ?_ ?_ ?_
  exact (SE_loc (i := 3) (k := .local) rfl nofun)
  exact SL_nil
  exact rfl
  exact rfl
  exact rfl
  exact rfl
  exact rfl
  exact SSs_nil
  exact SSs_nil
  refine SSs_cons ?_ ?_
  refine SS_if ?_ ?_ ?_
  refine SB_cmp ?_ ?_ ?_ ?_
  exact (SE_loc (i := 0) (k := .local) rfl nofun)
  exact (SE_strL (l := [112, 111, 115]) rfl)
  exact SCmp_eq
  exact rfl
  refine SSs_cons ?_ ?_
  refine SS_ret ?_
  refine SE_call (i := 6) ?_ ?_ ?_ ?_ ?_ ?_
  exact rfl
  exact hG.f_pos_end.1
  exact hG.f_pos_end.2
  refine SL_cons ?_ ?_ ?_
  exact (SE_loc (i := 2) (k := .local) rfl nofun)
  refine SL_cons ?_ ?_ ?_
  exact (SE_loc (i := 3) (k := .local) rfl nofun)
  exact SL_nil
  exact rfl
  exact rfl
  exact rfl
  exact rfl
  exact SSs_nil
  exact SSs_nil
  refine SSs_cons ?_ ?_
  refine SS_if ?_ ?_ ?_
  refine SB_cmp ?_ ?_ ?_ ?_
  exact (SE_loc (i := 0) (k := .local) rfl nofun)
  exact (SE_strL (l := [114, 112, 111, 115]) rfl)
  exact SCmp_eq
  exact rfl
  refine SSs_cons ?_ ?_
  refine SS_ret ?_
  exact SE_bad
  exact SSs_nil
  exact SSs_nil
  refine SSs_cons ?_ ?_
  refine SS_if ?_ ?_ ?_
  refine SB_cmp ?_ ?_ ?_ ?_
  exact (SE_loc (i := 0) (k := .local) rfl nofun)
  exact (SE_strL (l := [116, 97, 98]) rfl)
  exact SCmp_eq
  exact rfl
  refine SSs_cons ?_ ?_
  refine SS_ret ?_
  refine SE_call (i := 8) ?_ ?_ ?_ ?_ ?_ ?_
  exact rfl
  exact hG.f_tab_end.1
  exact hG.f_tab_end.2
  refine SL_cons ?_ ?_ ?_
  exact (SE_loc (i := 1) (k := .local) rfl nofun)
  refine SL_cons ?_ ?_ ?_
  exact (SE_loc (i := 2) (k := .local) rfl nofun)
  refine SL_cons ?_ ?_ ?_
  exact (SE_loc (i := 3) (k := .local) rfl nofun)
  exact SL_nil
  exact rfl
  exact rfl
  exact rfl
  exact rfl
  exact rfl
  exact SSs_nil
  exact SSs_nil
  refine SSs_cons ?_ ?_
  refine SS_if ?_ ?_ ?_
  refine SB_cmp ?_ ?_ ?_ ?_
  exact (SE_loc (i := 0) (k := .local) rfl nofun)
  exact (SE_strL (l := [114, 116, 97, 98]) rfl)
  exact SCmp_eq
  exact rfl
  refine SSs_cons ?_ ?_
  refine SS_ret ?_
  exact SE_bad
  exact SSs_nil
  exact SSs_nil
  refine SSs_cons ?_ ?_
  refine SS_if ?_ ?_ ?_
  refine SB_cmp ?_ ?_ ?_ ?_
  exact (SE_loc (i := 0) (k := .local) rfl nofun)
  exact (SE_strL (l := [97, 110, 121]) rfl)
  exact SCmp_eq
  exact rfl
  refine SSs_cons ?_ ?_
  refine SS_ret ?_
  refine SE_call (i := 10) ?_ ?_ ?_ ?_ ?_ ?_
  exact rfl
  exact hG.f_any_at.1
  exact hG.f_any_at.2
  refine SL_cons ?_ ?_ ?_
  exact (SE_loc (i := 1) (k := .local) rfl nofun)
  refine SL_cons ?_ ?_ ?_
  exact (SE_loc (i := 2) (k := .local) rfl nofun)
  refine SL_cons ?_ ?_ ?_
  exact (SE_loc (i := 3) (k := .local) rfl nofun)
  exact SL_nil
  exact rfl
  exact rfl
  exact rfl
  exact rfl
  exact rfl
  exact SSs_nil
  exact SSs_nil
  refine SSs_cons ?_ ?_
  refine SS_if ?_ ?_ ?_
  refine SB_cmp ?_ ?_ ?_ ?_
  exact (SE_loc (i := 0) (k := .local) rfl nofun)
  exact (SE_strL (l := [110, 111, 116, 97, 110, 121]) rfl)
  exact SCmp_eq
  exact rfl
  refine SSs_cons ?_ ?_
  refine SS_ret ?_
  refine SE_call (i := 11) ?_ ?_ ?_ ?_ ?_ ?_
  exact rfl
  exact hG.f_notany_at.1
  exact hG.f_notany_at.2
  refine SL_cons ?_ ?_ ?_
  exact (SE_loc (i := 1) (k := .local) rfl nofun)
  refine SL_cons ?_ ?_ ?_
  exact (SE_loc (i := 2) (k := .local) rfl nofun)
  refine SL_cons ?_ ?_ ?_
  exact (SE_loc (i := 3) (k := .local) rfl nofun)
  exact SL_nil
  exact rfl
  exact rfl
  exact rfl
  exact rfl
  exact rfl
  exact SSs_nil
  exact SSs_nil
  refine SSs_cons ?_ ?_
  refine SS_if ?_ ?_ ?_
  refine SB_cmp ?_ ?_ ?_ ?_
  exact (SE_loc (i := 0) (k := .local) rfl nofun)
  exact (SE_strL (l := [115, 112, 97, 110]) rfl)
  exact SCmp_eq
  exact rfl
  refine SSs_cons ?_ ?_
  refine SS_ret ?_
  exact SE_bad
  exact SSs_nil
  exact SSs_nil
  refine SSs_cons ?_ ?_
  refine SS_ret ?_
  exact SE_bad
  exact SSs_nil

noncomputable def P_plain_end : ST := (sCons (sRet (pIf (tCmp bEq (pOp2 bIdx (pLoc 0) (pVal (V.int 0))) (pVal (V.str [114, 101, 109]))) (pCall 348 (pCons (pLoc 1) pNil)) (pCall 411 (pCons (pOp2 bIdx (pLoc 0) (pVal (V.int 0))) (pCons (pLoc 1) (pCons (pLoc 2) (pCons (pOp2 bIdx (pLoc 0) (pVal (V.int 1))) pNil)))))))
    sNil)
set_option maxHeartbeats 4000000 in
theorem S_plain_end {c : Cx} (hG : Gl c) : SSs c (fdN (tops 70)) (fdB (tops 70)) P_plain_end := by
  refine SSs_cons ?_ ?_
  refine SS_ret ?_
  refine SE_ifexp ?_ ?_ ?_
  refine SB_cmp ?_ ?_ ?_ ?_
  refine SE_sub ?_ ?_ ?_
  exact (SE_loc (i := 0) (k := .local) rfl nofun)
  exact SE_intV
  exact rfl
  exact (SE_strL (l := [114, 101, 109]) rfl)
  exact SCmp_eq
  exact rfl
  refine SE_call (i := 3) ?_ ?_ ?_ ?_ ?_ ?_
  exact rfl
  exact hG.f_rem_end.1
  exact hG.f_rem_end.2
  refine SL_cons ?_ ?_ ?_
  exact (SE_loc (i := 1) (k := .local) rfl nofun)
  exact SL_nil
  exact rfl
  exact rfl
  exact rfl
  refine SE_call (i := 4) ?_ ?_ ?_ ?_ ?_ ?_
  exact rfl
  exact hG.f_one_end.1
  exact hG.f_one_end.2
  refine SL_cons ?_ ?_ ?_
  refine SE_sub ?_ ?_ ?_
  exact (SE_loc (i := 0) (k := .local) rfl nofun)
  exact SE_intV
  exact rfl
  refine SL_cons ?_ ?_ ?_
  exact (SE_loc (i := 1) (k := .local) rfl nofun)
  refine SL_cons ?_ ?_ ?_
  exact (SE_loc (i := 2) (k := .local) rfl nofun)
  refine SL_cons ?_ ?_ ?_
  refine SE_sub ?_ ?_ ?_
  exact (SE_loc (i := 0) (k := .local) rfl nofun)
  exact SE_intV
  exact rfl
  exact SL_nil
  exact rfl
  exact rfl
  exact rfl
  exact rfl
  exact rfl
  exact rfl
  exact SSs_nil

noncomputable def P_ends_of : ST := (sCons (sIf (tCmp bEq (pLoc 0) (pVal (V.str [97, 114, 98]))) (sCons (sRet (pCall 390 (pCons (pLoc 1) (pCons (pLoc 2) pNil))))
    sNil) sNil)
    (sCons (sIf (tCmp bEq (pLoc 0) (pVal (V.str [98, 97, 108]))) (sCons (sRet (pCall 404 (pCons (pLoc 1) (pCons (pLoc 2) pNil))))
    sNil) sNil)
    (sCons (sIf (tCmp bEq (pLoc 0) (pVal (V.str [114, 101, 109]))) (sCons (sRet (pList (pCons (pCall 348 (pCons (pLoc 1) pNil)) pNil)))
    sNil) sNil)
    (sCons (sAsg 4 (pCall 411 (pCons (pLoc 0) (pCons (pLoc 1) (pCons (pLoc 2) (pCons (pLoc 3) pNil))))))
    (sCons (sRet (pIf (tCmp (bIs true) (pLoc 4) (pVal (V.none))) (pList pNil) (pList (pCons (pLoc 4) pNil))))
    sNil)))))
set_option maxHeartbeats 4000000 in
theorem S_ends_of {c : Cx} (hG : Gl c) : SSs c (fdN (tops 71)) (fdB (tops 71)) P_ends_of := by
  refine SSs_cons ?_ ?_
  refine SS_if ?_ ?_ ?_
  refine SB_cmp ?_ ?_ ?_ ?_
  exact (SE_loc (i := 0) (k := .local) rfl nofun)
  exact (SE_strL (l := [97, 114, 98]) rfl)
  exact SCmp_eq
  exact rfl
  refine SSs_cons ?_ ?_
  refine SS_ret ?_
  refine SE_call (i := 5) ?_ ?_ ?_ ?_ ?_ ?_
  exact rfl
  exact hG.f_arb_ends.1
  exact hG.f_arb_ends.2
  refine SL_cons ?_ ?_ ?_
  exact (SE_loc (i := 1) (k := .local) rfl nofun)
  refine SL_cons ?_ ?_ ?_
  exact (SE_loc (i := 2) (k := .local) rfl nofun)
  exact SL_nil
  exact rfl
  exact rfl
  exact rfl
  exact rfl
  exact SSs_nil
  exact SSs_nil
  refine SSs_cons ?_ ?_
  refine SS_if ?_ ?_ ?_
  refine SB_cmp ?_ ?_ ?_ ?_
  exact (SE_loc (i := 0) (k := .local) rfl nofun)
  exact (SE_strL (l := [98, 97, 108]) rfl)
  exact SCmp_eq
  exact rfl
  refine SSs_cons ?_ ?_
  refine SS_ret ?_
  refine SE_call (i := 6) ?_ ?_ ?_ ?_ ?_ ?_
  exact rfl
  exact hG.f_bal_ends.1
  exact hG.f_bal_ends.2
  refine SL_cons ?_ ?_ ?_
  exact (SE_loc (i := 1) (k := .local) rfl nofun)
  refine SL_cons ?_ ?_ ?_
  exact (SE_loc (i := 2) (k := .local) rfl nofun)
  exact SL_nil
  exact rfl
  exact rfl
  exact rfl
  exact rfl
  exact SSs_nil
  exact SSs_nil
  refine SSs_cons ?_ ?_
  refine SS_if ?_ ?_ ?_
  refine SB_cmp ?_ ?_ ?_ ?_
  exact (SE_loc (i := 0) (k := .local) rfl nofun)
  exact (SE_strL (l := [114, 101, 109]) rfl)
  exact SCmp_eq
  exact rfl
  refine SSs_cons ?_ ?_
  refine SS_ret ?_
  refine SE_list ?_
  refine SL_cons ?_ ?_ ?_
  refine SE_call (i := 7) ?_ ?_ ?_ ?_ ?_ ?_
  exact rfl
  exact hG.f_rem_end.1
  exact hG.f_rem_end.2
  refine SL_cons ?_ ?_ ?_
  exact (SE_loc (i := 1) (k := .local) rfl nofun)
  exact SL_nil
  exact rfl
  exact rfl
  exact rfl
  exact SL_nil
  exact rfl
  exact SSs_nil
  exact SSs_nil
  refine SSs_cons ?_ ?_
  refine SS_asg (i := 4) (k := .local) ?_ ?_ ?_ ?_ ?_
  refine SE_call (i := 8) ?_ ?_ ?_ ?_ ?_ ?_
  exact rfl
  exact hG.f_one_end.1
  exact hG.f_one_end.2
  refine SL_cons ?_ ?_ ?_
  exact (SE_loc (i := 0) (k := .local) rfl nofun)
  refine SL_cons ?_ ?_ ?_
  exact (SE_loc (i := 1) (k := .local) rfl nofun)
  refine SL_cons ?_ ?_ ?_
  exact (SE_loc (i := 2) (k := .local) rfl nofun)
  refine SL_cons ?_ ?_ ?_
  exact (SE_loc (i := 3) (k := .local) rfl nofun)
  exact SL_nil
  exact rfl
  exact rfl
  exact rfl
  exact rfl
  exact rfl
  exact rfl
  exact rfl
  exact (.inl rfl)
  exact rfl
  exact (.inl rfl)
  refine SSs_cons ?_ ?_
  refine SS_ret ?_
  refine SE_ifexp ?_ ?_ ?_
  refine SB_cmp ?_ ?_ ?_ ?_
  exact (SE_loc (i := 4) (k := .local) rfl nofun)
  exact SE_noneV
  exact SCmp_is
  exact rfl
  refine SE_list ?_
  exact SL_nil
  refine SE_list ?_
  refine SL_cons ?_ ?_ ?_
  exact (SE_loc (i := 4) (k := .local) rfl nofun)
  exact SL_nil
  exact rfl
  exact SSs_nil

noncomputable def P_Way_init : ST := (sCons (sPut 0 (pLoc 0) (pLoc 1))
    (sCons (sPut 1 (pLoc 0) (pLoc 2))
    (sCons (sPut 2 (pLoc 0) (pLoc 3))
    (sCons (sPut 3 (pLoc 0) (pLoc 4))
    (sCons (sPut 4 (pLoc 0) (pLoc 5))
    (sCons (sPut 5 (pLoc 0) (pLoc 6))
    sNil))))))
set_option maxHeartbeats 4000000 in
theorem S_Way_init {c : Cx} (hG : Gl c) : SSs c (fdN (subs 76 0)) (fdB (subs 76 0)) P_Way_init := by
  refine SSs_cons ?_ ?_
  refine SS_put (k := 0) ?_ ?_ ?_ ?_
  exact (SE_loc (i := 0) (k := .local) rfl nofun)
  exact (SE_loc (i := 1) (k := .local) rfl nofun)
  exact rfl
  exact rfl
  refine SSs_cons ?_ ?_
  refine SS_put (k := 1) ?_ ?_ ?_ ?_
  exact (SE_loc (i := 0) (k := .local) rfl nofun)
  exact (SE_loc (i := 2) (k := .local) rfl nofun)
  exact rfl
  exact rfl
  refine SSs_cons ?_ ?_
  refine SS_put (k := 2) ?_ ?_ ?_ ?_
  exact (SE_loc (i := 0) (k := .local) rfl nofun)
  exact (SE_loc (i := 3) (k := .local) rfl nofun)
  exact rfl
  exact rfl
  refine SSs_cons ?_ ?_
  refine SS_put (k := 3) ?_ ?_ ?_ ?_
  exact (SE_loc (i := 0) (k := .local) rfl nofun)
  exact (SE_loc (i := 4) (k := .local) rfl nofun)
  exact rfl
  exact rfl
  refine SSs_cons ?_ ?_
  refine SS_put (k := 4) ?_ ?_ ?_ ?_
  exact (SE_loc (i := 0) (k := .local) rfl nofun)
  exact (SE_loc (i := 5) (k := .local) rfl nofun)
  exact rfl
  exact rfl
  refine SSs_cons ?_ ?_
  refine SS_put (k := 5) ?_ ?_ ?_ ?_
  exact (SE_loc (i := 0) (k := .local) rfl nofun)
  exact (SE_loc (i := 6) (k := .local) rfl nofun)
  exact rfl
  exact rfl
  exact SSs_nil

noncomputable def P_Way_copied : ST := (sCons (sRet (pCall 449 (pCons (pAttr 0 (pLoc 0)) (pCons (pLoc 1) (pCons (pAttr 2 (pLoc 0)) (pCons (pAttr 3 (pLoc 0)) (pCons (pAttr 4 (pLoc 0)) (pCons (pAttr 5 (pLoc 0)) pNil))))))))
    sNil)
set_option maxHeartbeats 4000000 in
theorem S_Way_copied {c : Cx} (hG : Gl c) : SSs c (fdN (subs 76 1)) (fdB (subs 76 1)) P_Way_copied := by
  refine SSs_cons ?_ ?_
  refine SS_ret ?_
  refine SE_call (i := 2) ?_ ?_ ?_ ?_ ?_ ?_
  exact rfl
  exact hG.f_Way.1
  exact hG.f_Way.2
  refine SL_cons ?_ ?_ ?_
  refine SE_attr (k := 0) ?_ ?_ ?_
  exact (SE_loc (i := 0) (k := .local) rfl nofun)
  exact (fun _ _ => rfl)
  exact rfl
  refine SL_cons ?_ ?_ ?_
  exact (SE_loc (i := 1) (k := .local) rfl nofun)
  refine SL_cons ?_ ?_ ?_
  refine SE_attr (k := 2) ?_ ?_ ?_
  exact (SE_loc (i := 0) (k := .local) rfl nofun)
  exact (fun _ _ => rfl)
  exact rfl
  refine SL_cons ?_ ?_ ?_
  refine SE_attr (k := 3) ?_ ?_ ?_
  exact (SE_loc (i := 0) (k := .local) rfl nofun)
  exact (fun _ _ => rfl)
  exact rfl
  refine SL_cons ?_ ?_ ?_
  refine SE_attr (k := 4) ?_ ?_ ?_
  exact (SE_loc (i := 0) (k := .local) rfl nofun)
  exact (fun _ _ => rfl)
  exact rfl
  refine SL_cons ?_ ?_ ?_
  refine SE_attr (k := 5) ?_ ?_ ?_
  exact (SE_loc (i := 0) (k := .local) rfl nofun)
  exact (fun _ _ => rfl)
  exact rfl
  exact SL_nil
  exact rfl
  exact rfl
  exact rfl
  exact rfl
  exact rfl
  exact rfl
  exact rfl
  exact rfl
  exact SSs_nil

noncomputable def P_Match_init : ST := (sCons (sPut 6 (pLoc 0) (pLoc 1))
    (sCons (sPut 7 (pLoc 0) (pLoc 2))
    (sCons (sPut 8 (pLoc 0) (pList pNil))
    sNil)))
set_option maxHeartbeats 4000000 in
theorem S_Match_init {c : Cx} (hG : Gl c) : SSs c (fdN (subs 77 0)) (fdB (subs 77 0)) P_Match_init := by
  refine SSs_cons ?_ ?_
  refine SS_put (k := 6) ?_ ?_ ?_ ?_
  exact (SE_loc (i := 0) (k := .local) rfl nofun)
  exact (SE_loc (i := 1) (k := .local) rfl nofun)
  exact rfl
  exact rfl
  refine SSs_cons ?_ ?_
  refine SS_put (k := 7) ?_ ?_ ?_ ?_
  exact (SE_loc (i := 0) (k := .local) rfl nofun)
  exact (SE_loc (i := 2) (k := .local) rfl nofun)
  exact rfl
  exact rfl
  refine SSs_cons ?_ ?_
  refine SS_put (k := 8) ?_ ?_ ?_ ?_
  exact (SE_loc (i := 0) (k := .local) rfl nofun)
  refine SE_list ?_
  exact SL_nil
  exact rfl
  exact rfl
  exact SSs_nil

noncomputable def T_Match_run_1 : pTest := (tCmp (bIs false) (pLoc 3) (pVal (V.none)))
noncomputable def B_Match_run_2 : ST := (sCons (sExp (pMeth 33 (pAttr 7 (pLoc 0)) pNil))
    (sCons (sAsg 4 (pOp2 bIdx (pAttr 0 (pLoc 3)) (pAttr 1 (pLoc 3))))
    (sCons (sIf (tAnd (tCmp bEq (pOp2 bIdx (pLoc 4) (pVal (V.int 0))) (pVal (V.str [100, 111, 110, 101]))) (tCmp (bIs true) (pAttr 5 (pLoc 3)) (pVal (V.none)))) (sCons (sRet (pTup (pCons (pVal (V.int 0)) (pCons (pLoc 3) pNil))))
    sNil) sNil)
    (sCons (sIf (tCmp bEq (pOp2 bIdx (pLoc 4) (pVal (V.int 0))) (pVal (V.str [97, 98, 111, 114, 116]))) (sCons (sRet (pTup (pCons (pVal (V.int 2)) (pCons (pVal (V.none)) pNil))))
    sNil) sNil)
    (sCons (sIf (tNot (tOfP (pMeth 27 (pLoc 0) (pCons (pLoc 4) (pCons (pLoc 3) pNil))))) (sCons (sAsg 3 (pMeth 26 (pLoc 0) pNil))
    (sCons (sIf (tAnd (tCmp (bIs false) (pLoc 3) (pVal (V.none))) (tCmp (bIs true) (pAttr 0 (pLoc 3)) (pVal (V.none)))) (sCons (sRet (pTup (pCons (pVal (V.int 2)) (pCons (pVal (V.none)) pNil))))
    sNil) sNil)
    sNil)) sNil)
    sNil)))))
noncomputable def P_Match_run : ST := (sCons (sAsg 3 (pCall 449 (pCons (pLoc 1) (pCons (pVal (V.int 0)) (pCons (pLoc 2) (pCons (pVal (V.none)) (pCons (pVal (V.none)) (pCons (pVal (V.none)) pNil))))))))
    (sCons (sWhile T_Match_run_1 B_Match_run_2)
    (sCons (sRet (pTup (pCons (pVal (V.int 1)) (pCons (pVal (V.none)) pNil))))
    sNil)))
set_option maxHeartbeats 4000000 in
theorem S_Match_run {c : Cx} (hG : Gl c) : SSs c (fdN (subs 77 1)) (fdB (subs 77 1)) P_Match_run := by
  refine SSs_cons ?_ ?_
  refine SS_asg (i := 3) (k := .local) ?_ ?_ ?_ ?_ ?_
  refine SE_call (i := 5) ?_ ?_ ?_ ?_ ?_ ?_
  exact rfl
  exact hG.f_Way.1
  exact hG.f_Way.2
  refine SL_cons ?_ ?_ ?_
  exact (SE_loc (i := 1) (k := .local) rfl nofun)
  refine SL_cons ?_ ?_ ?_
  exact SE_intV
  refine SL_cons ?_ ?_ ?_
  exact (SE_loc (i := 2) (k := .local) rfl nofun)
  refine SL_cons ?_ ?_ ?_
  exact SE_noneV
  refine SL_cons ?_ ?_ ?_
  exact SE_noneV
  refine SL_cons ?_ ?_ ?_
  exact SE_noneV
  exact SL_nil
  exact rfl
  exact rfl
  exact rfl
  exact rfl
  exact rfl
  exact rfl
  exact rfl
  exact rfl
  exact rfl
  exact (.inl rfl)
  exact rfl
  exact (.inl rfl)
  refine SSs_cons ?_ ?_
  refine SS_while ?_ ?_
  refine SB_cmp ?_ ?_ ?_ ?_
  exact (SE_loc (i := 3) (k := .local) rfl nofun)
  exact SE_noneV
  exact SCmp_isnot
  exact rfl
  refine SSs_cons ?_ ?_
  refine SS_exp ?_ ?_
  refine SE_meth (k := 33) ?_ ?_ ?_ ?_ ?_
  refine SE_attr (k := 7) ?_ ?_ ?_
  exact (SE_loc (i := 0) (k := .local) rfl nofun)
  exact (fun _ _ => rfl)
  exact rfl
  exact SL_nil
  exact rfl
  exact (fun _ => rfl)
  exact rfl
  exact rfl
  refine SSs_cons ?_ ?_
  refine SS_asg (i := 4) (k := .local) ?_ ?_ ?_ ?_ ?_
  refine SE_sub ?_ ?_ ?_
  refine SE_attr (k := 0) ?_ ?_ ?_
  exact (SE_loc (i := 3) (k := .local) rfl nofun)
  exact (fun _ _ => rfl)
  exact rfl
  refine SE_attr (k := 1) ?_ ?_ ?_
  exact (SE_loc (i := 3) (k := .local) rfl nofun)
  exact (fun _ _ => rfl)
  exact rfl
  exact rfl
  exact rfl
  exact (.inl rfl)
  exact rfl
  exact (.inl rfl)
  refine SSs_cons ?_ ?_
  refine SS_if ?_ ?_ ?_
  refine SB_and ?_ ?_
  refine SB_cmp ?_ ?_ ?_ ?_
  refine SE_sub ?_ ?_ ?_
  exact (SE_loc (i := 4) (k := .local) rfl nofun)
  exact SE_intV
  exact rfl
  exact (SE_gv (i := 6) rfl hG.v_DONE rfl)
  exact SCmp_eq
  exact rfl
  refine SB_cmp ?_ ?_ ?_ ?_
  refine SE_attr (k := 5) ?_ ?_ ?_
  exact (SE_loc (i := 3) (k := .local) rfl nofun)
  exact (fun _ _ => rfl)
  exact rfl
  exact SE_noneV
  exact SCmp_is
  exact rfl
  refine SSs_cons ?_ ?_
  refine SS_ret ?_
  refine SE_tup ?_
  refine SL_cons ?_ ?_ ?_
  exact (SE_gv (i := 7) rfl hG.v_MET rfl)
  refine SL_cons ?_ ?_ ?_
  exact (SE_loc (i := 3) (k := .local) rfl nofun)
  exact SL_nil
  exact rfl
  exact rfl
  exact SSs_nil
  exact SSs_nil
  refine SSs_cons ?_ ?_
  refine SS_if ?_ ?_ ?_
  refine SB_cmp ?_ ?_ ?_ ?_
  refine SE_sub ?_ ?_ ?_
  exact (SE_loc (i := 4) (k := .local) rfl nofun)
  exact SE_intV
  exact rfl
  exact (SE_gv (i := 8) rfl hG.v_ABORT rfl)
  exact SCmp_eq
  exact rfl
  refine SSs_cons ?_ ?_
  refine SS_ret ?_
  refine SE_tup ?_
  refine SL_cons ?_ ?_ ?_
  exact (SE_gv (i := 9) rfl hG.v_OVER rfl)
  refine SL_cons ?_ ?_ ?_
  exact SE_noneV
  exact SL_nil
  exact rfl
  exact rfl
  exact SSs_nil
  exact SSs_nil
  refine SSs_cons ?_ ?_
  refine SS_if ?_ ?_ ?_
  refine SB_not ?_
  refine SB_plain ?_ ?_
  refine SE_meth (k := 27) ?_ ?_ ?_ ?_ ?_
  exact (SE_loc (i := 0) (k := .local) rfl nofun)
  refine SL_cons ?_ ?_ ?_
  exact (SE_loc (i := 4) (k := .local) rfl nofun)
  refine SL_cons ?_ ?_ ?_
  exact (SE_loc (i := 3) (k := .local) rfl nofun)
  exact SL_nil
  exact rfl
  exact rfl
  exact rfl
  exact (fun _ => rfl)
  exact rfl
  exact (fun _ _ => rfl)
  refine SSs_cons ?_ ?_
  refine SS_asg (i := 3) (k := .local) ?_ ?_ ?_ ?_ ?_
  refine SE_meth (k := 26) ?_ ?_ ?_ ?_ ?_
  exact (SE_loc (i := 0) (k := .local) rfl nofun)
  exact SL_nil
  exact rfl
  exact (fun _ => rfl)
  exact rfl
  exact rfl
  exact (.inl rfl)
  exact rfl
  exact (.inl rfl)
  refine SSs_cons ?_ ?_
  refine SS_if ?_ ?_ ?_
  refine SB_and ?_ ?_
  refine SB_cmp ?_ ?_ ?_ ?_
  exact (SE_loc (i := 3) (k := .local) rfl nofun)
  exact SE_noneV
  exact SCmp_isnot
  exact rfl
  refine SB_cmp ?_ ?_ ?_ ?_
  refine SE_attr (k := 0) ?_ ?_ ?_
  exact (SE_loc (i := 3) (k := .local) rfl nofun)
  exact (fun _ _ => rfl)
  exact rfl
  exact SE_noneV
  exact SCmp_is
  exact rfl
  refine SSs_cons ?_ ?_
  refine SS_ret ?_
  refine SE_tup ?_
  refine SL_cons ?_ ?_ ?_
  exact (SE_gv (i := 9) rfl hG.v_OVER rfl)
  refine SL_cons ?_ ?_ ?_
  exact SE_noneV
  exact SL_nil
  exact rfl
  exact rfl
  exact SSs_nil
  exact SSs_nil
  exact SSs_nil
  exact SSs_nil
  exact SSs_nil
  refine SSs_cons ?_ ?_
  refine SS_ret ?_
  refine SE_tup ?_
  refine SL_cons ?_ ?_ ?_
  exact (SE_gv (i := 10) rfl hG.v_FAILED rfl)
  refine SL_cons ?_ ?_ ?_
  exact SE_noneV
  exact SL_nil
  exact rfl
  exact rfl
  exact SSs_nil

noncomputable def P_Match_way_back : ST := (sCons (sRet (pIf (tCmp (bLt .Gt) (pBlt bLen (pCons (pAttr 8 (pLoc 0)) pNil)) (pVal (V.int 0))) (pLm bPop (pAttr 8 (pLoc 0)) pNil) (pVal (V.none))))
    sNil)
set_option maxHeartbeats 4000000 in
theorem S_Match_way_back {c : Cx} (hG : Gl c) : SSs c (fdN (subs 77 2)) (fdB (subs 77 2)) P_Match_way_back := by
  refine SSs_cons ?_ ?_
  refine SS_ret ?_
  refine SE_ifexp ?_ ?_ ?_
  refine SB_cmp ?_ ?_ ?_ ?_
  refine SE_blt (i := 1) (fv := .builtin "len") ?_ ?_ ?_ ?_ ?_ ?_ ?_ ?_
  exact rfl
  exact hG.b_len.1
  exact hG.b_len.2
  exact SC_len
  refine SL_cons ?_ ?_ ?_
  refine SE_attr (k := 8) ?_ ?_ ?_
  exact (SE_loc (i := 0) (k := .local) rfl nofun)
  exact (fun _ _ => rfl)
  exact rfl
  exact SL_nil
  exact rfl
  exact rfl
  exact rfl
  exact (.inl ⟨_, rfl⟩)
  exact SE_intV
  exact (SCmp_lt .Gt)
  exact rfl
  refine SE_lm (id := "list.pop") ?_ ?_ ?_ ?_ ?_ ?_ ?_
  refine SE_attr (k := 8) ?_ ?_ ?_
  exact (SE_loc (i := 0) (k := .local) rfl nofun)
  exact (fun _ _ => rfl)
  exact rfl
  exact SL_nil
  exact SC_pop
  exact PySem.F.slot_list_pop
  exact PySem.F.type_list_pop
  exact (fun _ => rfl)
  exact rfl
  exact SE_noneV
  exact SSs_nil

noncomputable def P_Match_done : ST := (sCons (sAsg 3 (pOp2 bIdx (pLoc 1) (pVal (V.int 0))))
    (sCons (sIf (tCmp bEq (pLoc 3) (pVal (V.str [111, 110, 101]))) (sCons (sRet (pMeth 28 (pLoc 0) (pCons (pLoc 1) (pCons (pLoc 2) pNil))))
    sNil) sNil)
    (sCons (sIf (tCmp bEq (pLoc 3) (pVal (V.str [115, 112, 108, 105, 116]))) (sCons (sExp (pLm bAppend (pAttr 8 (pLoc 0)) (pCons (pMeth 24 (pLoc 2) (pCons (pOp2 bIdx (pLoc 1) (pVal (V.int 1))) pNil)) pNil)))
    sNil) (sCons (sIf (tCmp bEq (pLoc 3) (pVal (V.str [106, 117, 109, 112]))) (sCons (sPut 1 (pLoc 2) (pOp2 bIdx (pLoc 1) (pVal (V.int 1))))
    (sCons (sRet (pVal (V.bool true)))
    sNil)) (sCons (sIf (tCmp bEq (pLoc 3) (pVal (V.str [109, 97, 114, 107]))) (sCons (sPut 4 (pLoc 2) (pTup (pCons (pAttr 4 (pLoc 2)) (pCons (pAttr 2 (pLoc 2)) pNil))))
    sNil) (sCons (sIf (tCmp bIn (pLoc 3) (pTup (pCons (pVal (V.str [110, 97, 109, 101])) (pCons (pVal (V.str [115, 101, 116])) (pCons (pVal (V.str [103, 97, 105, 110])) pNil))))) (sCons (sIf (tNot (tOfP (pMeth 29 (pLoc 0) (pCons (pLoc 1) (pCons (pLoc 2) pNil))))) (sCons (sRet (pVal (V.bool false)))
    sNil) sNil)
    sNil) (sCons (sIf (tCmp bEq (pLoc 3) (pVal (V.str [112, 108, 97, 99, 101]))) (sCons (sIf (tNot (tOfP (pMeth 34 (pAttr 7 (pLoc 0)) (pCons (pOp2 bIdx (pLoc 1) (pVal (V.int 1))) (pCons (pAttr 2 (pLoc 2)) pNil))))) (sCons (sRet (pVal (V.bool false)))
    sNil) sNil)
    sNil) (sCons (sRet (pMeth 30 (pLoc 0) (pCons (pLoc 1) (pCons (pLoc 2) pNil))))
    sNil))
    sNil))
    sNil))
    sNil))
    sNil))
    (sCons (sAugA 1 .Add (pLoc 2) (pVal (V.int 1)))
    (sCons (sRet (pVal (V.bool true)))
    sNil)))))
set_option maxHeartbeats 4000000 in
theorem S_Match_done {c : Cx} (hG : Gl c) : SSs c (fdN (subs 77 3)) (fdB (subs 77 3)) P_Match_done := by
  refine SSs_cons ?_ ?_
  refine SS_asg (i := 3) (k := .local) ?_ ?_ ?_ ?_ ?_
  refine SE_sub ?_ ?_ ?_
  exact (SE_loc (i := 1) (k := .local) rfl nofun)
  exact SE_intV
  exact rfl
  exact rfl
  exact (.inl rfl)
  exact rfl
  exact (.inl rfl)
  refine SSs_cons ?_ ?_
  refine SS_if ?_ ?_ ?_
  refine SB_cmp ?_ ?_ ?_ ?_
  exact (SE_loc (i := 3) (k := .local) rfl nofun)
  exact (SE_gv (i := 4) rfl hG.v_ONE rfl)
  exact SCmp_eq
  exact rfl
  refine SSs_cons ?_ ?_
  refine SS_ret ?_
  refine SE_meth (k := 28) ?_ ?_ ?_ ?_ ?_
  exact (SE_loc (i := 0) (k := .local) rfl nofun)
  refine SL_cons ?_ ?_ ?_
  exact (SE_loc (i := 1) (k := .local) rfl nofun)
  refine SL_cons ?_ ?_ ?_
  exact (SE_loc (i := 2) (k := .local) rfl nofun)
  exact SL_nil
  exact rfl
  exact rfl
  exact rfl
  exact (fun _ => rfl)
  exact rfl
  exact SSs_nil
  exact SSs_nil
  refine SSs_cons ?_ ?_
  refine SS_if ?_ ?_ ?_
  refine SB_cmp ?_ ?_ ?_ ?_
  exact (SE_loc (i := 3) (k := .local) rfl nofun)
  exact (SE_gv (i := 5) rfl hG.v_SPLIT rfl)
  exact SCmp_eq
  exact rfl
  refine SSs_cons ?_ ?_
  refine SS_exp ?_ ?_
  refine SE_lm (id := "list.append") ?_ ?_ ?_ ?_ ?_ ?_ ?_
  refine SE_attr (k := 8) ?_ ?_ ?_
  exact (SE_loc (i := 0) (k := .local) rfl nofun)
  exact (fun _ _ => rfl)
  exact rfl
  refine SL_cons ?_ ?_ ?_
  refine SE_meth (k := 24) ?_ ?_ ?_ ?_ ?_
  exact (SE_loc (i := 2) (k := .local) rfl nofun)
  refine SL_cons ?_ ?_ ?_
  refine SE_sub ?_ ?_ ?_
  exact (SE_loc (i := 1) (k := .local) rfl nofun)
  exact SE_intV
  exact rfl
  exact SL_nil
  exact rfl
  exact rfl
  exact (fun _ => rfl)
  exact rfl
  exact SL_nil
  exact rfl
  exact SC_append
  exact PySem.F.slot_list_append
  exact PySem.F.type_list_append
  exact (fun _ => rfl)
  exact rfl
  exact rfl
  exact SSs_nil
  refine SSs_cons ?_ ?_
  refine SS_if ?_ ?_ ?_
  refine SB_cmp ?_ ?_ ?_ ?_
  exact (SE_loc (i := 3) (k := .local) rfl nofun)
  exact (SE_gv (i := 6) rfl hG.v_JUMP rfl)
  exact SCmp_eq
  exact rfl
  refine SSs_cons ?_ ?_
  refine SS_put (k := 1) ?_ ?_ ?_ ?_
  exact (SE_loc (i := 2) (k := .local) rfl nofun)
  refine SE_sub ?_ ?_ ?_
  exact (SE_loc (i := 1) (k := .local) rfl nofun)
  exact SE_intV
  exact rfl
  exact rfl
  exact rfl
  refine SSs_cons ?_ ?_
  refine SS_ret ?_
  exact SE_boolV
  exact SSs_nil
  refine SSs_cons ?_ ?_
  refine SS_if ?_ ?_ ?_
  refine SB_cmp ?_ ?_ ?_ ?_
  exact (SE_loc (i := 3) (k := .local) rfl nofun)
  exact (SE_gv (i := 7) rfl hG.v_MARK rfl)
  exact SCmp_eq
  exact rfl
  refine SSs_cons ?_ ?_
  refine SS_put (k := 4) ?_ ?_ ?_ ?_
  exact (SE_loc (i := 2) (k := .local) rfl nofun)
  refine SE_tup ?_
  refine SL_cons ?_ ?_ ?_
  refine SE_attr (k := 4) ?_ ?_ ?_
  exact (SE_loc (i := 2) (k := .local) rfl nofun)
  exact (fun _ _ => rfl)
  exact rfl
  refine SL_cons ?_ ?_ ?_
  refine SE_attr (k := 2) ?_ ?_ ?_
  exact (SE_loc (i := 2) (k := .local) rfl nofun)
  exact (fun _ _ => rfl)
  exact rfl
  exact SL_nil
  exact rfl
  exact rfl
  exact rfl
  exact rfl
  exact SSs_nil
  refine SSs_cons ?_ ?_
  refine SS_if ?_ ?_ ?_
  refine SB_cmp ?_ ?_ ?_ ?_
  exact (SE_loc (i := 3) (k := .local) rfl nofun)
  refine SE_tup ?_
  refine SL_cons ?_ ?_ ?_
  exact (SE_gv (i := 8) rfl hG.v_NAME rfl)
  refine SL_cons ?_ ?_ ?_
  exact (SE_gv (i := 9) rfl hG.v_SET rfl)
  refine SL_cons ?_ ?_ ?_
  exact (SE_gv (i := 10) rfl hG.v_GAIN rfl)
  exact SL_nil
  exact rfl
  exact rfl
  exact rfl
  exact SCmp_in
  exact rfl
  refine SSs_cons ?_ ?_
  refine SS_if ?_ ?_ ?_
  refine SB_not ?_
  refine SB_plain ?_ ?_
  refine SE_meth (k := 29) ?_ ?_ ?_ ?_ ?_
  exact (SE_loc (i := 0) (k := .local) rfl nofun)
  refine SL_cons ?_ ?_ ?_
  exact (SE_loc (i := 1) (k := .local) rfl nofun)
  refine SL_cons ?_ ?_ ?_
  exact (SE_loc (i := 2) (k := .local) rfl nofun)
  exact SL_nil
  exact rfl
  exact rfl
  exact rfl
  exact (fun _ => rfl)
  exact rfl
  exact (fun _ _ => rfl)
  refine SSs_cons ?_ ?_
  refine SS_ret ?_
  exact SE_boolV
  exact SSs_nil
  exact SSs_nil
  exact SSs_nil
  refine SSs_cons ?_ ?_
  refine SS_if ?_ ?_ ?_
  refine SB_cmp ?_ ?_ ?_ ?_
  exact (SE_loc (i := 3) (k := .local) rfl nofun)
  exact (SE_gv (i := 11) rfl hG.v_PLACE rfl)
  exact SCmp_eq
  exact rfl
  refine SSs_cons ?_ ?_
  refine SS_if ?_ ?_ ?_
  refine SB_not ?_
  refine SB_plain ?_ ?_
  refine SE_meth (k := 34) ?_ ?_ ?_ ?_ ?_
  refine SE_attr (k := 7) ?_ ?_ ?_
  exact (SE_loc (i := 0) (k := .local) rfl nofun)
  exact (fun _ _ => rfl)
  exact rfl
  refine SL_cons ?_ ?_ ?_
  refine SE_sub ?_ ?_ ?_
  exact (SE_loc (i := 1) (k := .local) rfl nofun)
  exact SE_intV
  exact rfl
  refine SL_cons ?_ ?_ ?_
  refine SE_attr (k := 2) ?_ ?_ ?_
  exact (SE_loc (i := 2) (k := .local) rfl nofun)
  exact (fun _ _ => rfl)
  exact rfl
  exact SL_nil
  exact rfl
  exact rfl
  exact rfl
  exact (fun _ => rfl)
  exact rfl
  exact (fun _ _ => rfl)
  refine SSs_cons ?_ ?_
  refine SS_ret ?_
  exact SE_boolV
  exact SSs_nil
  exact SSs_nil
  exact SSs_nil
  refine SSs_cons ?_ ?_
  refine SS_ret ?_
  refine SE_meth (k := 30) ?_ ?_ ?_ ?_ ?_
  exact (SE_loc (i := 0) (k := .local) rfl nofun)
  refine SL_cons ?_ ?_ ?_
  exact (SE_loc (i := 1) (k := .local) rfl nofun)
  refine SL_cons ?_ ?_ ?_
  exact (SE_loc (i := 2) (k := .local) rfl nofun)
  exact SL_nil
  exact rfl
  exact rfl
  exact rfl
  exact (fun _ => rfl)
  exact rfl
  exact SSs_nil
  exact SSs_nil
  exact SSs_nil
  exact SSs_nil
  exact SSs_nil
  refine SSs_cons ?_ ?_
  refine SS_augA (k := 1) ?_ ?_ ?_
  exact (SE_loc (i := 2) (k := .local) rfl nofun)
  exact SE_intV
  exact rfl
  refine SSs_cons ?_ ?_
  refine SS_ret ?_
  exact SE_boolV
  exact SSs_nil

noncomputable def P_Match_met_once : ST := (sCons (sAsg 3 (pOp2 bIdx (pLoc 1) (pVal (V.int 2))))
    (sCons (sIf (tOfP (pIsi bIsiTup (pLoc 3))) (sCons (sAsg 4 (fun _ _ _ _ => False))
    (sCons (sIf (tCmp (bIs true) (pLoc 4) (pVal (V.none))) (sCons (sRet (pVal (V.bool false)))
    sNil) sNil)
    (sCons (sAsg 3 (pOp2 bIdx (pLoc 4) (pVal (V.int 1))))
    sNil))) sNil)
    (sCons (sAsg 5 (pCall 418 (pCons (pTup (pCons (pOp2 bIdx (pLoc 1) (pVal (V.int 1))) (pCons (pLoc 3) pNil))) (pCons (pAttr 6 (pLoc 0)) (pCons (pAttr 2 (pLoc 2)) pNil)))))
    (sCons (sIf (tCmp (bIs true) (pLoc 5) (pVal (V.none))) (sCons (sRet (pVal (V.bool false)))
    sNil) sNil)
    (sCons (sPut 2 (pLoc 2) (pLoc 5))
    (sCons (sAugA 1 .Add (pLoc 2) (pVal (V.int 1)))
    (sCons (sRet (pVal (V.bool true)))
    sNil)))))))
set_option maxHeartbeats 4000000 in
theorem S_Match_met_once {c : Cx} (hG : Gl c) : SSs c (fdN (subs 77 4)) (fdB (subs 77 4)) P_Match_met_once := by
  refine SSs_cons ?_ ?_
  refine SS_asg (i := 3) (k := .local) ?_ ?_ ?_ ?_ ?_
  refine SE_sub ?_ ?_ ?_
  exact (SE_loc (i := 1) (k := .local) rfl nofun)
  exact SE_intV
  exact rfl
  exact rfl
  exact (.inl rfl)
  exact rfl
  exact (.inl rfl)
  refine SSs_cons ?_ ?_
  refine SS_if ?_ ?_ ?_
  refine SB_plain ?_ ?_
  refine SE_isi (i := 6) (j := 7) (Tn := "tuple") ?_ ?_ ?_ ?_ ?_ ?_ ?_ ?_ ?_ ?_ ?_
  exact rfl
  exact hG.b_isinstance.1
  exact hG.b_isinstance.2
  exact rfl
  exact hG.b_tuple.1
  exact hG.b_tuple.2
  exact isiOk_tup
  exact (SE_loc (i := 3) (k := .local) rfl nofun)
  exact rfl
  exact rfl
  exact rfl
  exact (fun _ _ => rfl)
  refine SSs_cons ?_ ?_
  refine SS_asg (i := 4) (k := .local) ?_ ?_ ?_ ?_ ?_
  exact SE_bad
  exact rfl
  exact (.inl rfl)
  exact rfl
  exact (.inl rfl)
  refine SSs_cons ?_ ?_
  refine SS_if ?_ ?_ ?_
  refine SB_cmp ?_ ?_ ?_ ?_
  exact (SE_loc (i := 4) (k := .local) rfl nofun)
  exact SE_noneV
  exact SCmp_is
  exact rfl
  refine SSs_cons ?_ ?_
  refine SS_ret ?_
  exact SE_boolV
  exact SSs_nil
  exact SSs_nil
  refine SSs_cons ?_ ?_
  refine SS_asg (i := 3) (k := .local) ?_ ?_ ?_ ?_ ?_
  refine SE_sub ?_ ?_ ?_
  exact (SE_loc (i := 4) (k := .local) rfl nofun)
  exact SE_intV
  exact rfl
  exact rfl
  exact (.inl rfl)
  exact rfl
  exact (.inl rfl)
  exact SSs_nil
  exact SSs_nil
  refine SSs_cons ?_ ?_
  refine SS_asg (i := 5) (k := .local) ?_ ?_ ?_ ?_ ?_
  refine SE_call (i := 9) ?_ ?_ ?_ ?_ ?_ ?_
  exact rfl
  exact hG.f_plain_end.1
  exact hG.f_plain_end.2
  refine SL_cons ?_ ?_ ?_
  refine SE_tup ?_
  refine SL_cons ?_ ?_ ?_
  refine SE_sub ?_ ?_ ?_
  exact (SE_loc (i := 1) (k := .local) rfl nofun)
  exact SE_intV
  exact rfl
  refine SL_cons ?_ ?_ ?_
  exact (SE_loc (i := 3) (k := .local) rfl nofun)
  exact SL_nil
  exact rfl
  exact rfl
  refine SL_cons ?_ ?_ ?_
  refine SE_attr (k := 6) ?_ ?_ ?_
  exact (SE_loc (i := 0) (k := .local) rfl nofun)
  exact (fun _ _ => rfl)
  exact rfl
  refine SL_cons ?_ ?_ ?_
  refine SE_attr (k := 2) ?_ ?_ ?_
  exact (SE_loc (i := 2) (k := .local) rfl nofun)
  exact (fun _ _ => rfl)
  exact rfl
  exact SL_nil
  exact rfl
  exact rfl
  exact rfl
  exact rfl
  exact rfl
  exact rfl
  exact (.inl rfl)
  exact rfl
  exact (.inl rfl)
  refine SSs_cons ?_ ?_
  refine SS_if ?_ ?_ ?_
  refine SB_cmp ?_ ?_ ?_ ?_
  exact (SE_loc (i := 5) (k := .local) rfl nofun)
  exact SE_noneV
  exact SCmp_is
  exact rfl
  refine SSs_cons ?_ ?_
  refine SS_ret ?_
  exact SE_boolV
  exact SSs_nil
  exact SSs_nil
  refine SSs_cons ?_ ?_
  refine SS_put (k := 2) ?_ ?_ ?_ ?_
  exact (SE_loc (i := 2) (k := .local) rfl nofun)
  exact (SE_loc (i := 5) (k := .local) rfl nofun)
  exact rfl
  exact rfl
  refine SSs_cons ?_ ?_
  refine SS_augA (k := 1) ?_ ?_ ?_
  exact (SE_loc (i := 2) (k := .local) rfl nofun)
  exact SE_intV
  exact rfl
  refine SSs_cons ?_ ?_
  refine SS_ret ?_
  exact SE_boolV
  exact SSs_nil

noncomputable def P_Match_ended : ST := (sCons (sTwo 3 4 (pAttr 4 (pLoc 2)))
    (sCons (sPut 4 (pLoc 2) (pLoc 3))
    (sCons (sAsg 5 (pSl (pAttr 6 (pLoc 0)) (pLoc 4) (pAttr 2 (pLoc 2)) (pVal V.none)))
    (sCons (sIf (tCmp bEq (pOp2 bIdx (pLoc 1) (pVal (V.int 0))) (pVal (V.str [103, 97, 105, 110]))) (sCons (sRet (pOfT (tCmp (bLt .Gt) (pAttr 2 (pLoc 2)) (pLoc 4))))
    sNil) sNil)
    (sCons (sIf (tCmp bEq (pOp2 bIdx (pLoc 1) (pVal (V.int 0))) (pVal (V.str [115, 101, 116]))) (sCons (sRet (pMeth 34 (pAttr 7 (pLoc 0)) (pCons (pOp2 bIdx (pLoc 1) (pVal (V.int 1))) (pCons (pLoc 5) pNil))))
    sNil) sNil)
    (sCons (sPut 3 (pLoc 2) (pTup (pCons (pAttr 3 (pLoc 2)) (pCons (pTup (pCons (pOp2 bIdx (pLoc 1) (pVal (V.int 1))) (pCons (pLoc 5) pNil))) pNil))))
    (sCons (sRet (pVal (V.bool true)))
    sNil)))))))
set_option maxHeartbeats 4000000 in
theorem S_Match_ended {c : Cx} (hG : Gl c) : SSs c (fdN (subs 77 5)) (fdB (subs 77 5)) P_Match_ended := by
  refine SSs_cons ?_ ?_
  refine SS_two (i := 3) (j := 4) (k := .local) (k' := .local) ?_ ?_ ?_ ?_ ?_ ?_ ?_ ?_ ?_
  refine SE_attr (k := 4) ?_ ?_ ?_
  exact (SE_loc (i := 2) (k := .local) rfl nofun)
  exact (fun _ _ => rfl)
  exact rfl
  exact rfl
  exact rfl
  exact (.inl rfl)
  exact (.inl rfl)
  exact rfl
  exact rfl
  exact rfl
  exact (swap_none rfl _ _)
  refine SSs_cons ?_ ?_
  refine SS_put (k := 4) ?_ ?_ ?_ ?_
  exact (SE_loc (i := 2) (k := .local) rfl nofun)
  exact (SE_loc (i := 3) (k := .local) rfl nofun)
  exact rfl
  exact rfl
  refine SSs_cons ?_ ?_
  refine SS_asg (i := 5) (k := .local) ?_ ?_ ?_ ?_ ?_
  refine SE_slice ?_ ?_ ?_ ?_
  refine SE_attr (k := 6) ?_ ?_ ?_
  exact (SE_loc (i := 0) (k := .local) rfl nofun)
  exact (fun _ _ => rfl)
  exact rfl
  refine SP_some ?_
  exact (SE_loc (i := 4) (k := .local) rfl nofun)
  refine SP_some ?_
  refine SE_attr (k := 2) ?_ ?_ ?_
  exact (SE_loc (i := 2) (k := .local) rfl nofun)
  exact (fun _ _ => rfl)
  exact rfl
  exact SP_none
  exact rfl
  exact (.inl rfl)
  exact rfl
  exact (.inl rfl)
  refine SSs_cons ?_ ?_
  refine SS_if ?_ ?_ ?_
  refine SB_cmp ?_ ?_ ?_ ?_
  refine SE_sub ?_ ?_ ?_
  exact (SE_loc (i := 1) (k := .local) rfl nofun)
  exact SE_intV
  exact rfl
  exact (SE_gv (i := 6) rfl hG.v_GAIN rfl)
  exact SCmp_eq
  exact rfl
  refine SSs_cons ?_ ?_
  refine SS_ret ?_
  refine SE_cmp ?_ ?_ ?_ ?_
  refine SE_attr (k := 2) ?_ ?_ ?_
  exact (SE_loc (i := 2) (k := .local) rfl nofun)
  exact (fun _ _ => rfl)
  exact rfl
  exact (SE_loc (i := 4) (k := .local) rfl nofun)
  exact (SCmp_lt .Gt)
  exact rfl
  exact SSs_nil
  exact SSs_nil
  refine SSs_cons ?_ ?_
  refine SS_if ?_ ?_ ?_
  refine SB_cmp ?_ ?_ ?_ ?_
  refine SE_sub ?_ ?_ ?_
  exact (SE_loc (i := 1) (k := .local) rfl nofun)
  exact SE_intV
  exact rfl
  exact (SE_gv (i := 7) rfl hG.v_SET rfl)
  exact SCmp_eq
  exact rfl
  refine SSs_cons ?_ ?_
  refine SS_ret ?_
  refine SE_meth (k := 34) ?_ ?_ ?_ ?_ ?_
  refine SE_attr (k := 7) ?_ ?_ ?_
  exact (SE_loc (i := 0) (k := .local) rfl nofun)
  exact (fun _ _ => rfl)
  exact rfl
  refine SL_cons ?_ ?_ ?_
  refine SE_sub ?_ ?_ ?_
  exact (SE_loc (i := 1) (k := .local) rfl nofun)
  exact SE_intV
  exact rfl
  refine SL_cons ?_ ?_ ?_
  exact (SE_loc (i := 5) (k := .local) rfl nofun)
  exact SL_nil
  exact rfl
  exact rfl
  exact rfl
  exact (fun _ => rfl)
  exact rfl
  exact SSs_nil
  exact SSs_nil
  refine SSs_cons ?_ ?_
  refine SS_put (k := 3) ?_ ?_ ?_ ?_
  exact (SE_loc (i := 2) (k := .local) rfl nofun)
  refine SE_tup ?_
  refine SL_cons ?_ ?_ ?_
  refine SE_attr (k := 3) ?_ ?_ ?_
  exact (SE_loc (i := 2) (k := .local) rfl nofun)
  exact (fun _ _ => rfl)
  exact rfl
  refine SL_cons ?_ ?_ ?_
  refine SE_tup ?_
  refine SL_cons ?_ ?_ ?_
  refine SE_sub ?_ ?_ ?_
  exact (SE_loc (i := 1) (k := .local) rfl nofun)
  exact SE_intV
  exact rfl
  refine SL_cons ?_ ?_ ?_
  exact (SE_loc (i := 5) (k := .local) rfl nofun)
  exact SL_nil
  exact rfl
  exact rfl
  exact SL_nil
  exact rfl
  exact rfl
  exact rfl
  exact rfl
  refine SSs_cons ?_ ?_
  refine SS_ret ?_
  exact SE_boolV
  exact SSs_nil

noncomputable def P_Match_other : ST := (sCons (sAsg 3 (pOp2 bIdx (pLoc 1) (pVal (V.int 0))))
    (sCons (sIf (tCmp bEq (pLoc 3) (pVal (V.str [102, 97, 105, 108]))) (sCons (sRet (pVal (V.bool false)))
    sNil) sNil)
    (sCons (sIf (tCmp bEq (pLoc 3) (pVal (V.str [119, 97, 121, 115]))) (sCons (sRet (pMeth 31 (pLoc 0) (pCons (pLoc 2) (pCons (pCall 425 (pCons (pOp2 bIdx (pLoc 1) (pVal (V.int 1))) (pCons (pAttr 6 (pLoc 0)) (pCons (pAttr 2 (pLoc 2)) (pCons (pVal (V.none)) pNil))))) pNil))))
    sNil) sNil)
    (sCons (sIf (tCmp bEq (pLoc 3) (pVal (V.str [97, 115, 107]))) (sCons (sRet (fun _ _ _ _ => False))
    sNil) sNil)
    (sCons (sIf (tCmp bEq (pLoc 3) (pVal (V.str [100, 111, 110, 101]))) (sCons sBad
    (sCons (sRet (pVal (V.bool true)))
    sNil)) sNil)
    (sCons (sIf (tCmp bEq (pLoc 3) (pVal (V.str [102, 101, 110, 99, 101]))) (sCons (sExp (pLm bAppend (pAttr 8 (pLoc 0)) (pCons (pCall 449 (pCons (pVal (V.none)) (pCons (pVal (V.int 0)) (pCons (pVal (V.int 0)) (pCons (pVal (V.none)) (pCons (pVal (V.none)) (pCons (pVal (V.none)) pNil))))))) pNil)))
    sNil) (sCons (sIf (tCmp bEq (pLoc 3) (pVal (V.str [115, 117, 99, 99, 101, 101, 100]))) (sCons (sExp (pLm bAppend (pAttr 8 (pLoc 0)) (pCons (pMeth 24 (pLoc 2) (pCons (pAttr 1 (pLoc 2)) pNil)) pNil)))
    sNil) sNil)
    sNil))
    (sCons (sAugA 1 .Add (pLoc 2) (pVal (V.int 1)))
    (sCons (sRet (pVal (V.bool true)))
    sNil))))))))
set_option maxHeartbeats 4000000 in
theorem S_Match_other {c : Cx} (hG : Gl c) : SSs c (fdN (subs 77 6)) (fdB (subs 77 6)) P_Match_other := by
  refine SSs_cons ?_ ?_
  refine SS_asg (i := 3) (k := .local) ?_ ?_ ?_ ?_ ?_
  refine SE_sub ?_ ?_ ?_
  exact (SE_loc (i := 1) (k := .local) rfl nofun)
  exact SE_intV
  exact rfl
  exact rfl
  exact (.inl rfl)
  exact rfl
  exact (.inl rfl)
  refine SSs_cons ?_ ?_
  refine SS_if ?_ ?_ ?_
  refine SB_cmp ?_ ?_ ?_ ?_
  exact (SE_loc (i := 3) (k := .local) rfl nofun)
  exact (SE_gv (i := 4) rfl hG.v_FAIL rfl)
  exact SCmp_eq
  exact rfl
  refine SSs_cons ?_ ?_
  refine SS_ret ?_
  exact SE_boolV
  exact SSs_nil
  exact SSs_nil
  refine SSs_cons ?_ ?_
  refine SS_if ?_ ?_ ?_
  refine SB_cmp ?_ ?_ ?_ ?_
  exact (SE_loc (i := 3) (k := .local) rfl nofun)
  exact (SE_gv (i := 5) rfl hG.v_WAYS rfl)
  exact SCmp_eq
  exact rfl
  refine SSs_cons ?_ ?_
  refine SS_ret ?_
  refine SE_meth (k := 31) ?_ ?_ ?_ ?_ ?_
  exact (SE_loc (i := 0) (k := .local) rfl nofun)
  refine SL_cons ?_ ?_ ?_
  exact (SE_loc (i := 2) (k := .local) rfl nofun)
  refine SL_cons ?_ ?_ ?_
  refine SE_call (i := 6) ?_ ?_ ?_ ?_ ?_ ?_
  exact rfl
  exact hG.f_ends_of.1
  exact hG.f_ends_of.2
  refine SL_cons ?_ ?_ ?_
  refine SE_sub ?_ ?_ ?_
  exact (SE_loc (i := 1) (k := .local) rfl nofun)
  exact SE_intV
  exact rfl
  refine SL_cons ?_ ?_ ?_
  refine SE_attr (k := 6) ?_ ?_ ?_
  exact (SE_loc (i := 0) (k := .local) rfl nofun)
  exact (fun _ _ => rfl)
  exact rfl
  refine SL_cons ?_ ?_ ?_
  refine SE_attr (k := 2) ?_ ?_ ?_
  exact (SE_loc (i := 2) (k := .local) rfl nofun)
  exact (fun _ _ => rfl)
  exact rfl
  refine SL_cons ?_ ?_ ?_
  exact SE_noneV
  exact SL_nil
  exact rfl
  exact rfl
  exact rfl
  exact rfl
  exact rfl
  exact rfl
  exact SL_nil
  exact rfl
  exact rfl
  exact rfl
  exact (fun _ => rfl)
  exact rfl
  exact SSs_nil
  exact SSs_nil
  refine SSs_cons ?_ ?_
  refine SS_if ?_ ?_ ?_
  refine SB_cmp ?_ ?_ ?_ ?_
  exact (SE_loc (i := 3) (k := .local) rfl nofun)
  exact (SE_gv (i := 7) rfl hG.v_ASK rfl)
  exact SCmp_eq
  exact rfl
  refine SSs_cons ?_ ?_
  refine SS_ret ?_
  exact SE_bad
  exact SSs_nil
  exact SSs_nil
  refine SSs_cons ?_ ?_
  refine SS_if ?_ ?_ ?_
  refine SB_cmp ?_ ?_ ?_ ?_
  exact (SE_loc (i := 3) (k := .local) rfl nofun)
  exact (SE_gv (i := 8) rfl hG.v_DONE rfl)
  exact SCmp_eq
  exact rfl
  refine SSs_cons ?_ ?_
  exact SS_bad
  refine SSs_cons ?_ ?_
  refine SS_ret ?_
  exact SE_boolV
  exact SSs_nil
  exact SSs_nil
  refine SSs_cons ?_ ?_
  refine SS_if ?_ ?_ ?_
  refine SB_cmp ?_ ?_ ?_ ?_
  exact (SE_loc (i := 3) (k := .local) rfl nofun)
  exact (SE_gv (i := 9) rfl hG.v_FENCE rfl)
  exact SCmp_eq
  exact rfl
  refine SSs_cons ?_ ?_
  refine SS_exp ?_ ?_
  refine SE_lm (id := "list.append") ?_ ?_ ?_ ?_ ?_ ?_ ?_
  refine SE_attr (k := 8) ?_ ?_ ?_
  exact (SE_loc (i := 0) (k := .local) rfl nofun)
  exact (fun _ _ => rfl)
  exact rfl
  refine SL_cons ?_ ?_ ?_
  refine SE_call (i := 10) ?_ ?_ ?_ ?_ ?_ ?_
  exact rfl
  exact hG.f_Way.1
  exact hG.f_Way.2
  refine SL_cons ?_ ?_ ?_
  exact SE_noneV
  refine SL_cons ?_ ?_ ?_
  exact SE_intV
  refine SL_cons ?_ ?_ ?_
  exact SE_intV
  refine SL_cons ?_ ?_ ?_
  exact SE_noneV
  refine SL_cons ?_ ?_ ?_
  exact SE_noneV
  refine SL_cons ?_ ?_ ?_
  exact SE_noneV
  exact SL_nil
  exact rfl
  exact rfl
  exact rfl
  exact rfl
  exact rfl
  exact rfl
  exact rfl
  exact rfl
  exact SL_nil
  exact rfl
  exact SC_append
  exact PySem.F.slot_list_append
  exact PySem.F.type_list_append
  exact (fun _ => rfl)
  exact rfl
  exact rfl
  exact SSs_nil
  refine SSs_cons ?_ ?_
  refine SS_if ?_ ?_ ?_
  refine SB_cmp ?_ ?_ ?_ ?_
  exact (SE_loc (i := 3) (k := .local) rfl nofun)
  exact (SE_gv (i := 11) rfl hG.v_SUCCEED rfl)
  exact SCmp_eq
  exact rfl
  refine SSs_cons ?_ ?_
  refine SS_exp ?_ ?_
  refine SE_lm (id := "list.append") ?_ ?_ ?_ ?_ ?_ ?_ ?_
  refine SE_attr (k := 8) ?_ ?_ ?_
  exact (SE_loc (i := 0) (k := .local) rfl nofun)
  exact (fun _ _ => rfl)
  exact rfl
  refine SL_cons ?_ ?_ ?_
  refine SE_meth (k := 24) ?_ ?_ ?_ ?_ ?_
  exact (SE_loc (i := 2) (k := .local) rfl nofun)
  refine SL_cons ?_ ?_ ?_
  refine SE_attr (k := 1) ?_ ?_ ?_
  exact (SE_loc (i := 2) (k := .local) rfl nofun)
  exact (fun _ _ => rfl)
  exact rfl
  exact SL_nil
  exact rfl
  exact rfl
  exact (fun _ => rfl)
  exact rfl
  exact SL_nil
  exact rfl
  exact SC_append
  exact PySem.F.slot_list_append
  exact PySem.F.type_list_append
  exact (fun _ => rfl)
  exact rfl
  exact rfl
  exact SSs_nil
  exact SSs_nil
  exact SSs_nil
  refine SSs_cons ?_ ?_
  refine SS_augA (k := 1) ?_ ?_ ?_
  exact (SE_loc (i := 2) (k := .local) rfl nofun)
  exact SE_intV
  exact rfl
  refine SSs_cons ?_ ?_
  refine SS_ret ?_
  exact SE_boolV
  exact SSs_nil

noncomputable def B_Match_met_often_1 : ST := (sCons (sAsg 4 (pMeth 24 (pLoc 1) (pCons (pAttr 1 (pLoc 1)) pNil)))
    (sCons (sPut 2 (pLoc 4) (pLoc 3))
    (sCons (sExp (pLm bAppend (pAttr 8 (pLoc 0)) (pCons (pLoc 4) pNil)))
    sNil)))
noncomputable def P_Match_met_often : ST := (sCons (sIf (tCmp bEq (pBlt bLen (pCons (pLoc 2) pNil)) (pVal (V.int 0))) (sCons (sRet (pVal (V.bool false)))
    sNil) sNil)
    (sCons (sAugA 1 .Add (pLoc 1) (pVal (V.int 1)))
    (sCons (sFor 3 (pSl (pLoc 2) (pVal V.none) (pVal (V.int 0)) (pVal (V.int (-1)))) B_Match_met_often_1)
    (sCons (sPut 2 (pLoc 1) (pOp2 bIdx (pLoc 2) (pVal (V.int 0))))
    (sCons (sRet (pVal (V.bool true)))
    sNil)))))
set_option maxHeartbeats 4000000 in
theorem S_Match_met_often {c : Cx} (hG : Gl c) : SSs c (fdN (subs 77 7)) (fdB (subs 77 7)) P_Match_met_often := by
  refine SSs_cons ?_ ?_
  refine SS_if ?_ ?_ ?_
  refine SB_cmp ?_ ?_ ?_ ?_
  refine SE_blt (i := 5) (fv := .builtin "len") ?_ ?_ ?_ ?_ ?_ ?_ ?_ ?_
  exact rfl
  exact hG.b_len.1
  exact hG.b_len.2
  exact SC_len
  refine SL_cons ?_ ?_ ?_
  exact (SE_loc (i := 2) (k := .local) rfl nofun)
  exact SL_nil
  exact rfl
  exact rfl
  exact rfl
  exact (.inl ⟨_, rfl⟩)
  exact SE_intV
  exact SCmp_eq
  exact rfl
  refine SSs_cons ?_ ?_
  refine SS_ret ?_
  exact SE_boolV
  exact SSs_nil
  exact SSs_nil
  refine SSs_cons ?_ ?_
  refine SS_augA (k := 1) ?_ ?_ ?_
  exact (SE_loc (i := 1) (k := .local) rfl nofun)
  exact SE_intV
  exact rfl
  refine SSs_cons ?_ ?_
  refine SS_for (i := 3) (k := .local) ?_ ?_ ?_ ?_ ?_ ?_
  refine SE_slice ?_ ?_ ?_ ?_
  exact (SE_loc (i := 2) (k := .local) rfl nofun)
  exact SP_none
  refine SP_some ?_
  exact SE_intV
  refine SP_some ?_
  exact SE_neg
  refine SSs_cons ?_ ?_
  refine SS_asg (i := 4) (k := .local) ?_ ?_ ?_ ?_ ?_
  refine SE_meth (k := 24) ?_ ?_ ?_ ?_ ?_
  exact (SE_loc (i := 1) (k := .local) rfl nofun)
  refine SL_cons ?_ ?_ ?_
  refine SE_attr (k := 1) ?_ ?_ ?_
  exact (SE_loc (i := 1) (k := .local) rfl nofun)
  exact (fun _ _ => rfl)
  exact rfl
  exact SL_nil
  exact rfl
  exact rfl
  exact (fun _ => rfl)
  exact rfl
  exact rfl
  exact (.inl rfl)
  exact rfl
  exact (.inl rfl)
  refine SSs_cons ?_ ?_
  refine SS_put (k := 2) ?_ ?_ ?_ ?_
  exact (SE_loc (i := 4) (k := .local) rfl nofun)
  exact (SE_loc (i := 3) (k := .local) rfl nofun)
  exact rfl
  exact rfl
  refine SSs_cons ?_ ?_
  refine SS_exp ?_ ?_
  refine SE_lm (id := "list.append") ?_ ?_ ?_ ?_ ?_ ?_ ?_
  refine SE_attr (k := 8) ?_ ?_ ?_
  exact (SE_loc (i := 0) (k := .local) rfl nofun)
  exact (fun _ _ => rfl)
  exact rfl
  refine SL_cons ?_ ?_ ?_
  exact (SE_loc (i := 4) (k := .local) rfl nofun)
  exact SL_nil
  exact rfl
  exact SC_append
  exact PySem.F.slot_list_append
  exact PySem.F.type_list_append
  exact (fun _ => rfl)
  exact rfl
  exact rfl
  exact SSs_nil
  exact rfl
  exact (.inl rfl)
  exact rfl
  exact (fun _ _ => rfl)
  refine SSs_cons ?_ ?_
  refine SS_put (k := 2) ?_ ?_ ?_ ?_
  exact (SE_loc (i := 1) (k := .local) rfl nofun)
  refine SE_sub ?_ ?_ ?_
  exact (SE_loc (i := 2) (k := .local) rfl nofun)
  exact SE_intV
  exact rfl
  exact rfl
  exact rfl
  refine SSs_cons ?_ ?_
  refine SS_ret ?_
  exact SE_boolV
  exact SSs_nil

noncomputable def T_named_rows_1 : pTest := (tCmp (bIs false) (pLoc 0) (pVal (V.none)))
noncomputable def B_named_rows_2 : ST := (sCons (sTwo 0 2 (pLoc 0))
    (sCons (sExp (pLm bAppend (pLoc 1) (pCons (pLoc 2) pNil)))
    sNil))
noncomputable def P_named_rows : ST := (sCons (sAsg 1 (pList pNil))
    (sCons (sWhile T_named_rows_1 B_named_rows_2)
    (sCons (sExp (pLm bReverse (pLoc 1) pNil))
    (sCons (sRet (pLoc 1))
    sNil))))
set_option maxHeartbeats 4000000 in
theorem S_named_rows {c : Cx} (hG : Gl c) : SSs c (fdN (tops 78)) (fdB (tops 78)) P_named_rows := by
  refine SSs_cons ?_ ?_
  refine SS_asg (i := 1) (k := .local) ?_ ?_ ?_ ?_ ?_
  refine SE_list ?_
  exact SL_nil
  exact rfl
  exact (.inl rfl)
  exact rfl
  exact (.inl rfl)
  refine SSs_cons ?_ ?_
  refine SS_while ?_ ?_
  refine SB_cmp ?_ ?_ ?_ ?_
  exact (SE_loc (i := 0) (k := .local) rfl nofun)
  exact SE_noneV
  exact SCmp_isnot
  exact rfl
  refine SSs_cons ?_ ?_
  refine SS_two (i := 0) (j := 2) (k := .local) (k' := .local) ?_ ?_ ?_ ?_ ?_ ?_ ?_ ?_ ?_
  exact (SE_loc (i := 0) (k := .local) rfl nofun)
  exact rfl
  exact rfl
  exact (.inl rfl)
  exact (.inl rfl)
  exact rfl
  exact rfl
  exact rfl
  exact (swap_none rfl _ _)
  refine SSs_cons ?_ ?_
  refine SS_exp ?_ ?_
  refine SE_lm (id := "list.append") ?_ ?_ ?_ ?_ ?_ ?_ ?_
  exact (SE_loc (i := 1) (k := .local) rfl nofun)
  refine SL_cons ?_ ?_ ?_
  exact (SE_loc (i := 2) (k := .local) rfl nofun)
  exact SL_nil
  exact rfl
  exact SC_append
  exact PySem.F.slot_list_append
  exact PySem.F.type_list_append
  exact (fun _ => rfl)
  exact rfl
  exact rfl
  exact SSs_nil
  refine SSs_cons ?_ ?_
  refine SS_exp ?_ ?_
  refine SE_lm (id := "list.reverse") ?_ ?_ ?_ ?_ ?_ ?_ ?_
  exact (SE_loc (i := 1) (k := .local) rfl nofun)
  exact SL_nil
  exact SC_reverse
  exact PySem.F.slot_list_reverse
  exact PySem.F.type_list_reverse
  exact (fun _ => rfl)
  exact rfl
  exact rfl
  refine SSs_cons ?_ ?_
  refine SS_ret ?_
  exact (SE_loc (i := 1) (k := .local) rfl nofun)
  exact SSs_nil

noncomputable def B_match_orders_1 : ST := (sCons (sTwo 5 6 (pMeth 25 (pCall 526 (pCons (pLoc 1) (pCons (pLoc 3) pNil))) (pCons (pLoc 0) (pCons (pLoc 4) pNil))))
    (sCons (sIf (tCmp bEq (pLoc 5) (pVal (V.int 0))) (sCons (sRet (pTup (pCons (pLoc 4) (pCons (pAttr 2 (pLoc 6)) (pCons (pCall 537 (pCons (pAttr 3 (pLoc 6)) pNil)) pNil)))))
    sNil) sNil)
    (sCons (sIf (tCmp bEq (pLoc 5) (pVal (V.int 2))) (sCons (sRet (pVal (V.none)))
    sNil) sNil)
    sNil)))
noncomputable def P_match_orders : ST := (sCons (sForR 4 (pVal (V.int 0)) (pIf (tOfP (pLoc 2)) (pVal (V.int 1)) (pOp2 (bAr .Add) (pBlt bLen (pCons (pLoc 1) pNil)) (pVal (V.int 1)))) B_match_orders_1)
    (sCons (sRet (pVal (V.none)))
    sNil))
set_option maxHeartbeats 4000000 in
theorem S_match_orders {c : Cx} (hG : Gl c) : SSs c (fdN (tops 79)) (fdB (tops 79)) P_match_orders := by
  refine SSs_cons ?_ ?_
  refine SS_forR (i := 4) (k := .local) ?_ ?_ ?_ ?_ ?_ ?_
  refine SRg_1 (j := 7) ?_ ?_ ?_ ?_ ?_ ?_
  exact rfl
  exact hG.b_range.1
  exact hG.b_range.2
  refine SE_ifexp ?_ ?_ ?_
  refine SB_plain ?_ ?_
  exact (SE_loc (i := 2) (k := .local) rfl nofun)
  exact (fun _ _ => rfl)
  exact SE_intV
  refine SE_bin ?_ ?_ ?_
  refine SE_blt (i := 8) (fv := .builtin "len") ?_ ?_ ?_ ?_ ?_ ?_ ?_ ?_
  exact rfl
  exact hG.b_len.1
  exact hG.b_len.2
  exact SC_len
  refine SL_cons ?_ ?_ ?_
  exact (SE_loc (i := 1) (k := .local) rfl nofun)
  exact SL_nil
  exact rfl
  exact rfl
  exact rfl
  exact (.inl ⟨_, rfl⟩)
  exact SE_intV
  exact (SOp2_ar .Add)
  exact rfl
  exact rfl
  refine SSs_cons ?_ ?_
  refine SS_two (i := 5) (j := 6) (k := .local) (k' := .local) ?_ ?_ ?_ ?_ ?_ ?_ ?_ ?_ ?_
  refine SE_meth (k := 25) ?_ ?_ ?_ ?_ ?_
  refine SE_call (i := 9) ?_ ?_ ?_ ?_ ?_ ?_
  exact rfl
  exact hG.f_Match.1
  exact hG.f_Match.2
  refine SL_cons ?_ ?_ ?_
  exact (SE_loc (i := 1) (k := .local) rfl nofun)
  refine SL_cons ?_ ?_ ?_
  exact (SE_loc (i := 3) (k := .local) rfl nofun)
  exact SL_nil
  exact rfl
  exact rfl
  exact rfl
  exact rfl
  refine SL_cons ?_ ?_ ?_
  exact (SE_loc (i := 0) (k := .local) rfl nofun)
  refine SL_cons ?_ ?_ ?_
  exact (SE_loc (i := 4) (k := .local) rfl nofun)
  exact SL_nil
  exact rfl
  exact rfl
  exact rfl
  exact (fun _ => rfl)
  exact rfl
  exact rfl
  exact rfl
  exact (.inl rfl)
  exact (.inl rfl)
  exact rfl
  exact rfl
  exact rfl
  exact (swap_none rfl _ _)
  refine SSs_cons ?_ ?_
  refine SS_if ?_ ?_ ?_
  refine SB_cmp ?_ ?_ ?_ ?_
  exact (SE_loc (i := 5) (k := .local) rfl nofun)
  exact (SE_gv (i := 10) rfl hG.v_MET rfl)
  exact SCmp_eq
  exact rfl
  refine SSs_cons ?_ ?_
  refine SS_ret ?_
  refine SE_tup ?_
  refine SL_cons ?_ ?_ ?_
  exact (SE_loc (i := 4) (k := .local) rfl nofun)
  refine SL_cons ?_ ?_ ?_
  refine SE_attr (k := 2) ?_ ?_ ?_
  exact (SE_loc (i := 6) (k := .local) rfl nofun)
  exact (fun _ _ => rfl)
  exact rfl
  refine SL_cons ?_ ?_ ?_
  refine SE_call (i := 11) ?_ ?_ ?_ ?_ ?_ ?_
  exact rfl
  exact hG.f_named_rows.1
  exact hG.f_named_rows.2
  refine SL_cons ?_ ?_ ?_
  refine SE_attr (k := 3) ?_ ?_ ?_
  exact (SE_loc (i := 6) (k := .local) rfl nofun)
  exact (fun _ _ => rfl)
  exact rfl
  exact SL_nil
  exact rfl
  exact rfl
  exact rfl
  exact SL_nil
  exact rfl
  exact rfl
  exact rfl
  exact SSs_nil
  exact SSs_nil
  refine SSs_cons ?_ ?_
  refine SS_if ?_ ?_ ?_
  refine SB_cmp ?_ ?_ ?_ ?_
  exact (SE_loc (i := 5) (k := .local) rfl nofun)
  exact (SE_gv (i := 12) rfl hG.v_OVER rfl)
  exact SCmp_eq
  exact rfl
  refine SSs_cons ?_ ?_
  refine SS_ret ?_
  exact SE_noneV
  exact SSs_nil
  exact SSs_nil
  exact SSs_nil
  exact rfl
  exact (.inl rfl)
  exact rfl
  exact (fun _ _ => rfl)
  refine SSs_cons ?_ ?_
  refine SS_ret ?_
  exact SE_noneV
  exact SSs_nil

noncomputable def P_match_compiled : ST := (sCons (sRet (pCall 544 (pCons (pCall 112 (pCons (pLoc 0) pNil)) (pCons (pLoc 1) (pCons (pLoc 2) (pCons (pLoc 3) pNil))))))
    sNil)
set_option maxHeartbeats 4000000 in
theorem S_match_compiled {c : Cx} (hG : Gl c) : SSs c (fdN (tops 80)) (fdB (tops 80)) P_match_compiled := by
  refine SSs_cons ?_ ?_
  refine SS_ret ?_
  refine SE_call (i := 4) ?_ ?_ ?_ ?_ ?_ ?_
  exact rfl
  exact hG.f_match_orders.1
  exact hG.f_match_orders.2
  refine SL_cons ?_ ?_ ?_
  refine SE_call (i := 5) ?_ ?_ ?_ ?_ ?_ ?_
  exact rfl
  exact hG.f_compile_pattern.1
  exact hG.f_compile_pattern.2
  refine SL_cons ?_ ?_ ?_
  exact (SE_loc (i := 0) (k := .local) rfl nofun)
  exact SL_nil
  exact rfl
  exact rfl
  exact rfl
  refine SL_cons ?_ ?_ ?_
  exact (SE_loc (i := 1) (k := .local) rfl nofun)
  refine SL_cons ?_ ?_ ?_
  exact (SE_loc (i := 2) (k := .local) rfl nofun)
  refine SL_cons ?_ ?_ ?_
  exact (SE_loc (i := 3) (k := .local) rfl nofun)
  exact SL_nil
  exact rfl
  exact rfl
  exact rfl
  exact rfl
  exact rfl
  exact rfl
  exact SSs_nil

noncomputable def P_PlainHost_init : ST := (sCons (sPut 9 (pLoc 0) (pLoc 1))
    (sCons (sPut 10 (pLoc 0) (pLoc 2))
    (sCons (sPut 11 (pLoc 0) (pLoc 3))
    (sCons (sPut 12 (pLoc 0) (pVal (V.int 64)))
    (sCons (sPut 13 (pLoc 0) (pVal (V.int 0)))
    (sCons (sPut 14 (pLoc 0) (pList pNil))
    sNil))))))
set_option maxHeartbeats 4000000 in
theorem S_PlainHost_init {c : Cx} (hG : Gl c) : SSs c (fdN (subs 82 0)) (fdB (subs 82 0)) P_PlainHost_init := by
  refine SSs_cons ?_ ?_
  refine SS_put (k := 9) ?_ ?_ ?_ ?_
  exact (SE_loc (i := 0) (k := .local) rfl nofun)
  exact (SE_loc (i := 1) (k := .local) rfl nofun)
  exact rfl
  exact rfl
  refine SSs_cons ?_ ?_
  refine SS_put (k := 10) ?_ ?_ ?_ ?_
  exact (SE_loc (i := 0) (k := .local) rfl nofun)
  exact (SE_loc (i := 2) (k := .local) rfl nofun)
  exact rfl
  exact rfl
  refine SSs_cons ?_ ?_
  refine SS_put (k := 11) ?_ ?_ ?_ ?_
  exact (SE_loc (i := 0) (k := .local) rfl nofun)
  exact (SE_loc (i := 3) (k := .local) rfl nofun)
  exact rfl
  exact rfl
  refine SSs_cons ?_ ?_
  refine SS_put (k := 12) ?_ ?_ ?_ ?_
  exact (SE_loc (i := 0) (k := .local) rfl nofun)
  exact SE_intV
  exact rfl
  exact rfl
  refine SSs_cons ?_ ?_
  refine SS_put (k := 13) ?_ ?_ ?_ ?_
  exact (SE_loc (i := 0) (k := .local) rfl nofun)
  exact SE_intV
  exact rfl
  exact rfl
  refine SSs_cons ?_ ?_
  refine SS_put (k := 14) ?_ ?_ ?_ ?_
  exact (SE_loc (i := 0) (k := .local) rfl nofun)
  refine SE_list ?_
  exact SL_nil
  exact rfl
  exact rfl
  exact SSs_nil

noncomputable def P_PlainHost_assign : ST := (sCons (sIf (tCmp bIn (pAttr 17 (pLoc 1)) (pAttr 11 (pLoc 0))) (sCons (sRet (pVal (V.bool false)))
    sNil) sNil)
    (sCons (sSet (pAttr 9 (pLoc 0)) (pAttr 17 (pLoc 1)) (pLoc 2))
    (sCons (sExp (pLm bAppend (pAttr 14 (pLoc 0)) (pCons (pTup (pCons (pAttr 17 (pLoc 1)) (pCons (pLoc 2) pNil))) pNil)))
    (sCons (sRet (pVal (V.bool true)))
    sNil))))
set_option maxHeartbeats 4000000 in
theorem S_PlainHost_assign {c : Cx} (hG : Gl c) : SSs c (fdN (subs 82 2)) (fdB (subs 82 2)) P_PlainHost_assign := by
  refine SSs_cons ?_ ?_
  refine SS_if ?_ ?_ ?_
  refine SB_cmp ?_ ?_ ?_ ?_
  refine SE_attr (k := 17) ?_ ?_ ?_
  exact (SE_loc (i := 1) (k := .local) rfl nofun)
  exact (fun _ _ => rfl)
  exact rfl
  refine SE_attr (k := 11) ?_ ?_ ?_
  exact (SE_loc (i := 0) (k := .local) rfl nofun)
  exact (fun _ _ => rfl)
  exact rfl
  exact SCmp_in
  exact rfl
  refine SSs_cons ?_ ?_
  refine SS_ret ?_
  exact SE_boolV
  exact SSs_nil
  exact SSs_nil
  refine SSs_cons ?_ ?_
  refine SS_set ?_ ?_ ?_ ?_
  refine SE_attr (k := 9) ?_ ?_ ?_
  exact (SE_loc (i := 0) (k := .local) rfl nofun)
  exact (fun _ _ => rfl)
  exact rfl
  refine SE_attr (k := 17) ?_ ?_ ?_
  exact (SE_loc (i := 1) (k := .local) rfl nofun)
  exact (fun _ _ => rfl)
  exact rfl
  exact (SE_loc (i := 2) (k := .local) rfl nofun)
  exact rfl
  refine SSs_cons ?_ ?_
  refine SS_exp ?_ ?_
  refine SE_lm (id := "list.append") ?_ ?_ ?_ ?_ ?_ ?_ ?_
  refine SE_attr (k := 14) ?_ ?_ ?_
  exact (SE_loc (i := 0) (k := .local) rfl nofun)
  exact (fun _ _ => rfl)
  exact rfl
  refine SL_cons ?_ ?_ ?_
  refine SE_tup ?_
  refine SL_cons ?_ ?_ ?_
  refine SE_attr (k := 17) ?_ ?_ ?_
  exact (SE_loc (i := 1) (k := .local) rfl nofun)
  exact (fun _ _ => rfl)
  exact rfl
  refine SL_cons ?_ ?_ ?_
  exact (SE_loc (i := 2) (k := .local) rfl nofun)
  exact SL_nil
  exact rfl
  exact rfl
  exact SL_nil
  exact rfl
  exact SC_append
  exact PySem.F.slot_list_append
  exact PySem.F.type_list_append
  exact (fun _ => rfl)
  exact rfl
  exact rfl
  refine SSs_cons ?_ ?_
  refine SS_ret ?_
  exact SE_boolV
  exact SSs_nil

noncomputable def P_PlainHost_step : ST := (sCons (sAugA 13 .Add (pLoc 0) (pVal (V.int 1)))
    (sCons (sIf (tCmp (bLt .Gt) (pAttr 13 (pLoc 0)) (pAttr 10 (pLoc 0))) (sCons sBad
    sNil) sNil)
    sNil))
set_option maxHeartbeats 4000000 in
theorem S_PlainHost_step {c : Cx} (hG : Gl c) : SSs c (fdN (subs 82 3)) (fdB (subs 82 3)) P_PlainHost_step := by
  refine SSs_cons ?_ ?_
  refine SS_augA (k := 13) ?_ ?_ ?_
  exact (SE_loc (i := 0) (k := .local) rfl nofun)
  exact SE_intV
  exact rfl
  refine SSs_cons ?_ ?_
  refine SS_if ?_ ?_ ?_
  refine SB_cmp ?_ ?_ ?_ ?_
  refine SE_attr (k := 13) ?_ ?_ ?_
  exact (SE_loc (i := 0) (k := .local) rfl nofun)
  exact (fun _ _ => rfl)
  exact rfl
  refine SE_attr (k := 10) ?_ ?_ ?_
  exact (SE_loc (i := 0) (k := .local) rfl nofun)
  exact (fun _ _ => rfl)
  exact rfl
  exact (SCmp_lt .Gt)
  exact rfl
  refine SSs_cons ?_ ?_
  exact SS_bad
  exact SSs_nil
  exact SSs_nil
  exact SSs_nil

noncomputable def P_law_pick : ST := (sCons (sRet (pIf (tCmp (bLt .Gt) (pBlt bLen (pCons (pLoc 0) pNil)) (pVal (V.int 0))) (pOp2 (bAr .Mod) (pLm bPop (pLoc 0) (pCons (pVal (V.int 0)) pNil)) (pLoc 1)) (pVal (V.int 0))))
    sNil)
set_option maxHeartbeats 4000000 in
theorem S_law_pick {c : Cx} (hG : Gl c) : SSs c (fdN (tops 84)) (fdB (tops 84)) P_law_pick := by
  refine SSs_cons ?_ ?_
  refine SS_ret ?_
  refine SE_ifexp ?_ ?_ ?_
  refine SB_cmp ?_ ?_ ?_ ?_
  refine SE_blt (i := 2) (fv := .builtin "len") ?_ ?_ ?_ ?_ ?_ ?_ ?_ ?_
  exact rfl
  exact hG.b_len.1
  exact hG.b_len.2
  exact SC_len
  refine SL_cons ?_ ?_ ?_
  exact (SE_loc (i := 0) (k := .local) rfl nofun)
  exact SL_nil
  exact rfl
  exact rfl
  exact rfl
  exact (.inl ⟨_, rfl⟩)
  exact SE_intV
  exact (SCmp_lt .Gt)
  exact rfl
  refine SE_bin ?_ ?_ ?_
  refine SE_lm (id := "list.pop") ?_ ?_ ?_ ?_ ?_ ?_ ?_
  exact (SE_loc (i := 0) (k := .local) rfl nofun)
  refine SL_cons ?_ ?_ ?_
  exact SE_intV
  exact SL_nil
  exact rfl
  exact SC_pop
  exact PySem.F.slot_list_pop
  exact PySem.F.type_list_pop
  exact (fun _ => rfl)
  exact rfl
  exact (SE_loc (i := 1) (k := .local) rfl nofun)
  exact (SOp2_ar .Mod)
  exact SE_intV
  exact SSs_nil

noncomputable def P_law_one_0 : ST := (sAsg 2 (pCall 600 (pCons (pLoc 0) (pCons (pLoc 1) pNil))))
set_option maxHeartbeats 4000000 in
theorem S_law_one_0 {c : Cx} (hG : Gl c) : SS c (fdN (tops 85)) ((fdB (tops 85)).getD 0 (.Pass ⟨0, 0, 0, 0⟩)) P_law_one_0 := by
  refine SS_asg (i := 2) (k := .local) ?_ ?_ ?_ ?_ ?_
  refine SE_call (i := 3) ?_ ?_ ?_ ?_ ?_ ?_
  exact rfl
  exact hG.f__law_pick.1
  exact hG.f__law_pick.2
  refine SL_cons ?_ ?_ ?_
  exact (SE_loc (i := 0) (k := .local) rfl nofun)
  refine SL_cons ?_ ?_ ?_
  exact (SE_loc (i := 1) (k := .local) rfl nofun)
  exact SL_nil
  exact rfl
  exact rfl
  exact rfl
  exact rfl
  exact rfl
  exact (.inl rfl)
  exact rfl
  exact (.inl rfl)

noncomputable def P_law_one_1 : ST := (sIf (tCmp bEq (pLoc 2) (pVal (V.int 0))) (sCons (sRet (pTup (pCons (pVal (V.str [99, 104, 97, 114, 115])) (pCons (pOp2 bMulS (pVal (V.str [49])) (pCall 600 (pCons (pLoc 0) (pCons (pVal (V.int 3)) pNil)))) pNil))))
    sNil) sNil)
set_option maxHeartbeats 4000000 in
theorem S_law_one_1 {c : Cx} (hG : Gl c) : SS c (fdN (tops 85)) ((fdB (tops 85)).getD 1 (.Pass ⟨0, 0, 0, 0⟩)) P_law_one_1 := by
  refine SS_if ?_ ?_ ?_
  refine SB_cmp ?_ ?_ ?_ ?_
  exact (SE_loc (i := 2) (k := .local) rfl nofun)
  exact SE_intV
  exact SCmp_eq
  exact rfl
  refine SSs_cons ?_ ?_
  refine SS_ret ?_
  refine SE_tup ?_
  refine SL_cons ?_ ?_ ?_
  exact (SE_strL (l := [99, 104, 97, 114, 115]) rfl)
  refine SL_cons ?_ ?_ ?_
  refine SE_bin ?_ ?_ ?_
  exact (SE_strL (l := [49]) rfl)
  refine SE_call (i := 3) ?_ ?_ ?_ ?_ ?_ ?_
  exact rfl
  exact hG.f__law_pick.1
  exact hG.f__law_pick.2
  refine SL_cons ?_ ?_ ?_
  exact (SE_loc (i := 0) (k := .local) rfl nofun)
  refine SL_cons ?_ ?_ ?_
  exact SE_intV
  exact SL_nil
  exact rfl
  exact rfl
  exact rfl
  exact rfl
  exact SOp2_muls
  exact SL_nil
  exact rfl
  exact rfl
  exact SSs_nil
  exact SSs_nil

noncomputable def P_law_one_2 : ST := (sIf (tCmp bEq (pLoc 2) (pVal (V.int 1))) (sCons (sRet (pTup (pCons (pVal (V.str [108, 101, 110])) (pCons (pCall 600 (pCons (pLoc 0) (pCons (pVal (V.int 3)) pNil))) pNil))))
    sNil) sNil)
set_option maxHeartbeats 4000000 in
theorem S_law_one_2 {c : Cx} (hG : Gl c) : SS c (fdN (tops 85)) ((fdB (tops 85)).getD 2 (.Pass ⟨0, 0, 0, 0⟩)) P_law_one_2 := by
  refine SS_if ?_ ?_ ?_
  refine SB_cmp ?_ ?_ ?_ ?_
  exact (SE_loc (i := 2) (k := .local) rfl nofun)
  exact SE_intV
  exact SCmp_eq
  exact rfl
  refine SSs_cons ?_ ?_
  refine SS_ret ?_
  refine SE_tup ?_
  refine SL_cons ?_ ?_ ?_
  exact (SE_strL (l := [108, 101, 110]) rfl)
  refine SL_cons ?_ ?_ ?_
  refine SE_call (i := 3) ?_ ?_ ?_ ?_ ?_ ?_
  exact rfl
  exact hG.f__law_pick.1
  exact hG.f__law_pick.2
  refine SL_cons ?_ ?_ ?_
  exact (SE_loc (i := 0) (k := .local) rfl nofun)
  refine SL_cons ?_ ?_ ?_
  exact SE_intV
  exact SL_nil
  exact rfl
  exact rfl
  exact rfl
  exact rfl
  exact SL_nil
  exact rfl
  exact rfl
  exact SSs_nil
  exact SSs_nil

noncomputable def P_law_one_3 : ST := (sRet (pOp2 bIdx (pList (pCons (pTup (pCons (pVal (V.str [97, 110, 121])) (pCons (pVal (V.str [49])) pNil))) (pCons (pTup (pCons (pVal (V.str [97, 114, 98])) pNil)) (pCons (pTup (pCons (pVal (V.str [98, 97, 108])) pNil)) pNil)))) (pOp2 (bAr .Sub) (pLoc 2) (pVal (V.int 2)))))
set_option maxHeartbeats 4000000 in
theorem S_law_one_3 {c : Cx} (hG : Gl c) : SS c (fdN (tops 85)) ((fdB (tops 85)).getD 3 (.Pass ⟨0, 0, 0, 0⟩)) P_law_one_3 := by
  refine SS_ret ?_
  refine SE_sub ?_ ?_ ?_
  refine SE_list ?_
  refine SL_cons ?_ ?_ ?_
  refine SE_tup ?_
  refine SL_cons ?_ ?_ ?_
  exact (SE_strL (l := [97, 110, 121]) rfl)
  refine SL_cons ?_ ?_ ?_
  exact (SE_strL (l := [49]) rfl)
  exact SL_nil
  exact rfl
  exact rfl
  refine SL_cons ?_ ?_ ?_
  refine SE_tup ?_
  refine SL_cons ?_ ?_ ?_
  exact (SE_strL (l := [97, 114, 98]) rfl)
  exact SL_nil
  exact rfl
  refine SL_cons ?_ ?_ ?_
  refine SE_tup ?_
  refine SL_cons ?_ ?_ ?_
  exact (SE_strL (l := [98, 97, 108]) rfl)
  exact SL_nil
  exact rfl
  exact SL_nil
  exact rfl
  exact rfl
  exact rfl
  refine SE_bin ?_ ?_ ?_
  exact (SE_loc (i := 2) (k := .local) rfl nofun)
  exact SE_intV
  exact (SOp2_ar .Sub)
  exact rfl

noncomputable def P_law_one : ST := (sCons P_law_one_0 (sCons P_law_one_1 (sCons P_law_one_2 (sCons P_law_one_3 sNil))))
theorem R_law_one {c : Cx} : ∀ (N : Names) (b : List Stmt), b.length = 4 → SS c N (b.getD 0 (.Pass ⟨0, 0, 0, 0⟩)) P_law_one_0 → SS c N (b.getD 1 (.Pass ⟨0, 0, 0, 0⟩)) P_law_one_1 → SS c N (b.getD 2 (.Pass ⟨0, 0, 0, 0⟩)) P_law_one_2 → SS c N (b.getD 3 (.Pass ⟨0, 0, 0, 0⟩)) P_law_one_3 → SSs c N b P_law_one := by
    intro N b hl h0 h1 h2 h3
    refine SSs_all ?_
    refine SSs_drop (k := 0) (by rw [hl]; decide) h0 ?_
    refine SSs_drop (k := 1) (by rw [hl]; decide) h1 ?_
    refine SSs_drop (k := 2) (by rw [hl]; decide) h2 ?_
    refine SSs_drop (k := 3) (by rw [hl]; decide) h3 ?_
    exact SSs_dropEnd (Nat.le_of_eq hl)
theorem S_law_one {c : Cx} (hG : Gl c) : SSs c (fdN (tops 85)) (fdB (tops 85)) P_law_one := @R_law_one c _ _ (by decide +kernel) (@S_law_one_0 c hG) (@S_law_one_1 c hG) (@S_law_one_2 c hG) (@S_law_one_3 c hG)

noncomputable def P_law_part : ST := (sCons (sAsg 1 (pCall 600 (pCons (pLoc 0) (pCons (pVal (V.int 5)) pNil))))
    (sCons (sIf (tCmp bEq (pLoc 1) (pVal (V.int 0))) (sCons (sRet (pCall 607 (pCons (pLoc 0) (pCons (pVal (V.int 5)) pNil))))
    sNil) sNil)
    (sCons (sIf (tCmp (bLt .Lt) (pLoc 1) (pVal (V.int 3))) (sCons (sRet (pTup (pCons (pOp2 bIdx (pList (pCons (pVal (V.str [99, 97, 116])) (pCons (pVal (V.str [97, 108, 116])) pNil))) (pOp2 (bAr .Sub) (pLoc 1) (pVal (V.int 1)))) (pCons (pCall 607 (pCons (pLoc 0) (pCons (pVal (V.int 5)) pNil))) (pCons (pCall 607 (pCons (pLoc 0) (pCons (pVal (V.int 5)) pNil))) pNil)))))
    sNil) sNil)
    (sCons (sRet (pTup (pCons (pVal (V.str [97, 114, 98, 110, 111])) (pCons (pIf (tCmp bEq (pLoc 1) (pVal (V.int 3))) (pCall 607 (pCons (pLoc 0) (pCons (pVal (V.int 3)) pNil))) (pTup (pCons (pVal (V.str [99, 97, 116])) (pCons (pCall 607 (pCons (pLoc 0) (pCons (pVal (V.int 3)) pNil))) (pCons (pCall 607 (pCons (pLoc 0) (pCons (pVal (V.int 3)) pNil))) pNil))))) pNil))))
    sNil))))
set_option maxHeartbeats 4000000 in
theorem S_law_part {c : Cx} (hG : Gl c) : SSs c (fdN (tops 86)) (fdB (tops 86)) P_law_part := by
  refine SSs_cons ?_ ?_
  refine SS_asg (i := 1) (k := .local) ?_ ?_ ?_ ?_ ?_
  refine SE_call (i := 2) ?_ ?_ ?_ ?_ ?_ ?_
  exact rfl
  exact hG.f__law_pick.1
  exact hG.f__law_pick.2
  refine SL_cons ?_ ?_ ?_
  exact (SE_loc (i := 0) (k := .local) rfl nofun)
  refine SL_cons ?_ ?_ ?_
  exact SE_intV
  exact SL_nil
  exact rfl
  exact rfl
  exact rfl
  exact rfl
  exact rfl
  exact (.inl rfl)
  exact rfl
  exact (.inl rfl)
  refine SSs_cons ?_ ?_
  refine SS_if ?_ ?_ ?_
  refine SB_cmp ?_ ?_ ?_ ?_
  exact (SE_loc (i := 1) (k := .local) rfl nofun)
  exact SE_intV
  exact SCmp_eq
  exact rfl
  refine SSs_cons ?_ ?_
  refine SS_ret ?_
  refine SE_call (i := 3) ?_ ?_ ?_ ?_ ?_ ?_
  exact rfl
  exact hG.f__law_one.1
  exact hG.f__law_one.2
  refine SL_cons ?_ ?_ ?_
  exact (SE_loc (i := 0) (k := .local) rfl nofun)
  refine SL_cons ?_ ?_ ?_
  exact SE_intV
  exact SL_nil
  exact rfl
  exact rfl
  exact rfl
  exact rfl
  exact SSs_nil
  exact SSs_nil
  refine SSs_cons ?_ ?_
  refine SS_if ?_ ?_ ?_
  refine SB_cmp ?_ ?_ ?_ ?_
  exact (SE_loc (i := 1) (k := .local) rfl nofun)
  exact SE_intV
  exact (SCmp_lt .Lt)
  exact rfl
  refine SSs_cons ?_ ?_
  refine SS_ret ?_
  refine SE_tup ?_
  refine SL_cons ?_ ?_ ?_
  refine SE_sub ?_ ?_ ?_
  refine SE_list ?_
  refine SL_cons ?_ ?_ ?_
  exact (SE_strL (l := [99, 97, 116]) rfl)
  refine SL_cons ?_ ?_ ?_
  exact (SE_strL (l := [97, 108, 116]) rfl)
  exact SL_nil
  exact rfl
  exact rfl
  refine SE_bin ?_ ?_ ?_
  exact (SE_loc (i := 1) (k := .local) rfl nofun)
  exact SE_intV
  exact (SOp2_ar .Sub)
  exact rfl
  refine SL_cons ?_ ?_ ?_
  refine SE_call (i := 3) ?_ ?_ ?_ ?_ ?_ ?_
  exact rfl
  exact hG.f__law_one.1
  exact hG.f__law_one.2
  refine SL_cons ?_ ?_ ?_
  exact (SE_loc (i := 0) (k := .local) rfl nofun)
  refine SL_cons ?_ ?_ ?_
  exact SE_intV
  exact SL_nil
  exact rfl
  exact rfl
  exact rfl
  exact rfl
  refine SL_cons ?_ ?_ ?_
  refine SE_call (i := 3) ?_ ?_ ?_ ?_ ?_ ?_
  exact rfl
  exact hG.f__law_one.1
  exact hG.f__law_one.2
  refine SL_cons ?_ ?_ ?_
  exact (SE_loc (i := 0) (k := .local) rfl nofun)
  refine SL_cons ?_ ?_ ?_
  exact SE_intV
  exact SL_nil
  exact rfl
  exact rfl
  exact rfl
  exact rfl
  exact SL_nil
  exact rfl
  exact rfl
  exact rfl
  exact SSs_nil
  exact SSs_nil
  refine SSs_cons ?_ ?_
  refine SS_ret ?_
  refine SE_tup ?_
  refine SL_cons ?_ ?_ ?_
  exact (SE_strL (l := [97, 114, 98, 110, 111]) rfl)
  refine SL_cons ?_ ?_ ?_
  refine SE_ifexp ?_ ?_ ?_
  refine SB_cmp ?_ ?_ ?_ ?_
  exact (SE_loc (i := 1) (k := .local) rfl nofun)
  exact SE_intV
  exact SCmp_eq
  exact rfl
  refine SE_call (i := 3) ?_ ?_ ?_ ?_ ?_ ?_
  exact rfl
  exact hG.f__law_one.1
  exact hG.f__law_one.2
  refine SL_cons ?_ ?_ ?_
  exact (SE_loc (i := 0) (k := .local) rfl nofun)
  refine SL_cons ?_ ?_ ?_
  exact SE_intV
  exact SL_nil
  exact rfl
  exact rfl
  exact rfl
  exact rfl
  refine SE_tup ?_
  refine SL_cons ?_ ?_ ?_
  exact (SE_strL (l := [99, 97, 116]) rfl)
  refine SL_cons ?_ ?_ ?_
  refine SE_call (i := 3) ?_ ?_ ?_ ?_ ?_ ?_
  exact rfl
  exact hG.f__law_one.1
  exact hG.f__law_one.2
  refine SL_cons ?_ ?_ ?_
  exact (SE_loc (i := 0) (k := .local) rfl nofun)
  refine SL_cons ?_ ?_ ?_
  exact SE_intV
  exact SL_nil
  exact rfl
  exact rfl
  exact rfl
  exact rfl
  refine SL_cons ?_ ?_ ?_
  refine SE_call (i := 3) ?_ ?_ ?_ ?_ ?_ ?_
  exact rfl
  exact hG.f__law_one.1
  exact hG.f__law_one.2
  refine SL_cons ?_ ?_ ?_
  exact (SE_loc (i := 0) (k := .local) rfl nofun)
  refine SL_cons ?_ ?_ ?_
  exact SE_intV
  exact SL_nil
  exact rfl
  exact rfl
  exact rfl
  exact rfl
  exact SL_nil
  exact rfl
  exact rfl
  exact rfl
  exact SL_nil
  exact rfl
  exact rfl
  exact SSs_nil

noncomputable def P_law_series_0 : ST := (sAsg 2 (pOp2 bIdx (pLoc 0) (pVal (V.int 0))))
set_option maxHeartbeats 4000000 in
theorem S_law_series_0 {c : Cx} (hG : Gl c) : SS c (fdN (tops 87)) ((fdB (tops 87)).getD 0 (.Pass ⟨0, 0, 0, 0⟩)) P_law_series_0 := by
  refine SS_asg (i := 2) (k := .cell) ?_ ?_ ?_ ?_ ?_
  refine SE_sub ?_ ?_ ?_
  exact (SE_loc (i := 0) (k := .local) rfl nofun)
  exact SE_intV
  exact rfl
  exact rfl
  exact (.inr rfl)
  exact rfl
  exact (.inl rfl)

noncomputable def P_law_series_1 : ST := (sIf (tCmp bIn (pLoc 2) (pTup (pCons (pVal (V.str [99, 104, 97, 114, 115])) (pCons (pVal (V.str [108, 101, 110])) (pCons (pVal (V.str [97, 110, 121])) pNil))))) (sCons (sAsg 3 (pIf (tCmp bEq (pLoc 2) (pVal (V.str [108, 101, 110]))) (pOp2 bIdx (pLoc 0) (pVal (V.int 1))) (pBlt bLen (pCons (pOp2 bIdx (pLoc 0) (pVal (V.int 1))) pNil))))
    (sCons (sRet (pComp (pCompR [none, none, none, some 3] (tgName 1) (pVal (V.int 0)) (pOp2 (bAr .Add) (pLoc 1) (pVal (V.int 1))) tTrue (pBlt bInt (pCons (pOfT (tCmp bEq (pLoc 1) (pLoc 3))) pNil)))))
    sNil)) sNil)
set_option maxHeartbeats 4000000 in
theorem S_law_series_1 {c : Cx} (hG : Gl c) : SS c (fdN (tops 87)) ((fdB (tops 87)).getD 1 (.Pass ⟨0, 0, 0, 0⟩)) P_law_series_1 := by
  refine SS_if ?_ ?_ ?_
  refine SB_cmp ?_ ?_ ?_ ?_
  exact (SE_loc (i := 2) (k := .cell) rfl nofun)
  refine SE_tup ?_
  refine SL_cons ?_ ?_ ?_
  exact (SE_strL (l := [99, 104, 97, 114, 115]) rfl)
  refine SL_cons ?_ ?_ ?_
  exact (SE_strL (l := [108, 101, 110]) rfl)
  refine SL_cons ?_ ?_ ?_
  exact (SE_strL (l := [97, 110, 121]) rfl)
  exact SL_nil
  exact rfl
  exact rfl
  exact rfl
  exact SCmp_in
  exact rfl
  refine SSs_cons ?_ ?_
  refine SS_asg (i := 3) (k := .cell) ?_ ?_ ?_ ?_ ?_
  refine SE_ifexp ?_ ?_ ?_
  refine SB_cmp ?_ ?_ ?_ ?_
  exact (SE_loc (i := 2) (k := .cell) rfl nofun)
  exact (SE_strL (l := [108, 101, 110]) rfl)
  exact SCmp_eq
  exact rfl
  refine SE_sub ?_ ?_ ?_
  exact (SE_loc (i := 0) (k := .local) rfl nofun)
  exact SE_intV
  exact rfl
  refine SE_blt (i := 8) (fv := .builtin "len") ?_ ?_ ?_ ?_ ?_ ?_ ?_ ?_
  exact rfl
  exact hG.b_len.1
  exact hG.b_len.2
  exact SC_len
  refine SL_cons ?_ ?_ ?_
  refine SE_sub ?_ ?_ ?_
  exact (SE_loc (i := 0) (k := .local) rfl nofun)
  exact SE_intV
  exact rfl
  exact SL_nil
  exact rfl
  exact rfl
  exact rfl
  exact (.inl ⟨_, rfl⟩)
  exact rfl
  exact (.inr rfl)
  exact rfl
  exact (.inl rfl)
  refine SSs_cons ?_ ?_
  refine SS_ret ?_
  refine SE_comp ?_
  refine SComp_R (fr := [none, none, none, some 3]) ?_ ?_ ?_ ?_ ?_ ?_
  exact (by exact ⟨rfl, by decide +kernel, by decide +kernel, by decide +kernel⟩)
  refine SRg_1 (j := 9) ?_ ?_ ?_ ?_ ?_ ?_
  exact rfl
  exact hG.b_range.1
  exact hG.b_range.2
  refine SE_bin ?_ ?_ ?_
  exact (SE_loc (i := 1) (k := .local) rfl nofun)
  exact SE_intV
  exact (SOp2_ar .Add)
  exact rfl
  exact rfl
  exact SBF_nil
  refine SE_blt (i := 2) (fv := .type "int") ?_ ?_ ?_ ?_ ?_ ?_ ?_ ?_
  exact rfl
  exact hG.b_int.1
  exact hG.b_int.2
  exact SC_int
  refine SL_cons ?_ ?_ ?_
  refine SE_cmp ?_ ?_ ?_ ?_
  exact (SE_loc (i := 1) (k := .local) rfl nofun)
  exact (SE_loc (i := 3) (k := .cell) rfl nofun)
  exact SCmp_eq
  exact rfl
  exact SL_nil
  exact rfl
  exact rfl
  exact rfl
  exact (.inr ⟨_, rfl⟩)
  exact (TgtOk_name (i := 1) rfl)
  exact (fun _ _ => rfl)
  exact SSs_nil
  exact SSs_nil

noncomputable def P_law_series_2 : ST := (sIf (tOr (tCmp bEq (pLoc 2) (pVal (V.str [97, 114, 98]))) (tCmp bEq (pLoc 2) (pVal (V.str [98, 97, 108])))) (sCons (sRet (pComp (pCompR [none, none, none, some 2] (tgName 1) (pVal (V.int 0)) (pOp2 (bAr .Add) (pLoc 1) (pVal (V.int 1))) tTrue (pBlt bInt (pCons (pOrV (pOfT (tCmp bEq (pLoc 3) (pVal (V.str [97, 114, 98])))) (pOfT (tCmp (bLt .Gt) (pLoc 1) (pVal (V.int 0))))) pNil)))))
    sNil) sNil)
set_option maxHeartbeats 4000000 in
theorem S_law_series_2 {c : Cx} (hG : Gl c) : SS c (fdN (tops 87)) ((fdB (tops 87)).getD 2 (.Pass ⟨0, 0, 0, 0⟩)) P_law_series_2 := by
  refine SS_if ?_ ?_ ?_
  refine SB_or ?_ ?_
  refine SB_cmp ?_ ?_ ?_ ?_
  exact (SE_loc (i := 2) (k := .cell) rfl nofun)
  exact (SE_strL (l := [97, 114, 98]) rfl)
  exact SCmp_eq
  exact rfl
  refine SB_cmp ?_ ?_ ?_ ?_
  exact (SE_loc (i := 2) (k := .cell) rfl nofun)
  exact (SE_strL (l := [98, 97, 108]) rfl)
  exact SCmp_eq
  exact rfl
  refine SSs_cons ?_ ?_
  refine SS_ret ?_
  refine SE_comp ?_
  refine SComp_R (fr := [none, none, none, some 2]) ?_ ?_ ?_ ?_ ?_ ?_
  exact (by exact ⟨rfl, by decide +kernel, by decide +kernel, by decide +kernel⟩)
  refine SRg_1 (j := 9) ?_ ?_ ?_ ?_ ?_ ?_
  exact rfl
  exact hG.b_range.1
  exact hG.b_range.2
  refine SE_bin ?_ ?_ ?_
  exact (SE_loc (i := 1) (k := .local) rfl nofun)
  exact SE_intV
  exact (SOp2_ar .Add)
  exact rfl
  exact rfl
  exact SBF_nil
  refine SE_blt (i := 2) (fv := .type "int") ?_ ?_ ?_ ?_ ?_ ?_ ?_ ?_
  exact rfl
  exact hG.b_int.1
  exact hG.b_int.2
  exact SC_int
  refine SL_cons ?_ ?_ ?_
  refine SE_or ?_ ?_
  refine SE_cmp ?_ ?_ ?_ ?_
  exact (SE_loc (i := 3) (k := .cell) rfl nofun)
  exact (SE_strL (l := [97, 114, 98]) rfl)
  exact SCmp_eq
  exact rfl
  refine SE_cmp ?_ ?_ ?_ ?_
  exact (SE_loc (i := 1) (k := .local) rfl nofun)
  exact SE_intV
  exact (SCmp_lt .Gt)
  exact rfl
  exact SL_nil
  exact rfl
  exact rfl
  exact rfl
  exact (.inr ⟨_, rfl⟩)
  exact (TgtOk_name (i := 1) rfl)
  exact (fun _ _ => rfl)
  exact SSs_nil
  exact SSs_nil

noncomputable def P_law_series_3 : ST := (sAsg 5 (pCall 619 (pCons (pOp2 bIdx (pLoc 0) (pVal (V.int 1))) (pCons (pLoc 1) pNil))))
set_option maxHeartbeats 4000000 in
theorem S_law_series_3 {c : Cx} (hG : Gl c) : SS c (fdN (tops 87)) ((fdB (tops 87)).getD 3 (.Pass ⟨0, 0, 0, 0⟩)) P_law_series_3 := by
  refine SS_asg (i := 5) (k := .cell) ?_ ?_ ?_ ?_ ?_
  refine SE_call (i := 10) ?_ ?_ ?_ ?_ ?_ ?_
  exact rfl
  exact hG.f__law_series.1
  exact hG.f__law_series.2
  refine SL_cons ?_ ?_ ?_
  refine SE_sub ?_ ?_ ?_
  exact (SE_loc (i := 0) (k := .local) rfl nofun)
  exact SE_intV
  exact rfl
  refine SL_cons ?_ ?_ ?_
  exact (SE_loc (i := 1) (k := .local) rfl nofun)
  exact SL_nil
  exact rfl
  exact rfl
  exact rfl
  exact rfl
  exact rfl
  exact (.inr rfl)
  exact rfl
  exact (.inl rfl)

noncomputable def B_law_series_1 : ST := (sCons (sExp (pLm bAppend (pLoc 6) (pCons (pBlt bSum (pCons (pComp (pCompR [none, none, some 4, some 6, some 5] (tgName 1) (pVal (V.int 1)) (pOp2 (bAr .Add) (pLoc 4) (pVal (V.int 1))) tTrue (pOp2 (bAr .Mult) (pOp2 bIdx (pLoc 4) (pLoc 1)) (pOp2 bIdx (pLoc 3) (pOp2 (bAr .Sub) (pLoc 2) (pLoc 1)))))) pNil)) pNil)))
    sNil)
noncomputable def P_law_series_4 : ST := (sIf (tCmp bEq (pLoc 2) (pVal (V.str [97, 114, 98, 110, 111]))) (sCons (sAsg 6 (pList (pCons (pVal (V.int 1)) pNil)))
    (sCons (sForR 4 (pVal (V.int 1)) (pOp2 (bAr .Add) (pLoc 1) (pVal (V.int 1))) B_law_series_1)
    (sCons (sRet (pLoc 6))
    sNil))) sNil)
set_option maxHeartbeats 4000000 in
theorem S_law_series_4 {c : Cx} (hG : Gl c) : SS c (fdN (tops 87)) ((fdB (tops 87)).getD 4 (.Pass ⟨0, 0, 0, 0⟩)) P_law_series_4 := by
  refine SS_if ?_ ?_ ?_
  refine SB_cmp ?_ ?_ ?_ ?_
  exact (SE_loc (i := 2) (k := .cell) rfl nofun)
  exact (SE_strL (l := [97, 114, 98, 110, 111]) rfl)
  exact SCmp_eq
  exact rfl
  refine SSs_cons ?_ ?_
  refine SS_asg (i := 6) (k := .cell) ?_ ?_ ?_ ?_ ?_
  refine SE_list ?_
  refine SL_cons ?_ ?_ ?_
  exact SE_intV
  exact SL_nil
  exact rfl
  exact rfl
  exact (.inr rfl)
  exact rfl
  exact (.inl rfl)
  refine SSs_cons ?_ ?_
  refine SS_forR (i := 4) (k := .cell) ?_ ?_ ?_ ?_ ?_ ?_
  refine SRg_2 (j := 9) ?_ ?_ ?_ ?_ ?_ ?_ ?_ ?_
  exact rfl
  exact hG.b_range.1
  exact hG.b_range.2
  exact SE_intV
  refine SE_bin ?_ ?_ ?_
  exact (SE_loc (i := 1) (k := .local) rfl nofun)
  exact SE_intV
  exact (SOp2_ar .Add)
  exact rfl
  exact rfl
  exact rfl
  refine SSs_cons ?_ ?_
  refine SS_exp ?_ ?_
  refine SE_lm (id := "list.append") ?_ ?_ ?_ ?_ ?_ ?_ ?_
  exact (SE_loc (i := 6) (k := .cell) rfl nofun)
  refine SL_cons ?_ ?_ ?_
  refine SE_blt (i := 11) (fv := .builtin "sum") ?_ ?_ ?_ ?_ ?_ ?_ ?_ ?_
  exact rfl
  exact hG.b_sum.1
  exact hG.b_sum.2
  exact SC_sum
  refine SL_cons ?_ ?_ ?_
  refine SE_comp ?_
  refine SComp_R (fr := [none, none, some 4, some 6, some 5]) ?_ ?_ ?_ ?_ ?_ ?_
  exact (by exact ⟨rfl, by decide +kernel, by decide +kernel, by decide +kernel⟩)
  refine SRg_2 (j := 9) ?_ ?_ ?_ ?_ ?_ ?_ ?_ ?_
  exact rfl
  exact hG.b_range.1
  exact hG.b_range.2
  exact SE_intV
  refine SE_bin ?_ ?_ ?_
  exact (SE_loc (i := 4) (k := .cell) rfl nofun)
  exact SE_intV
  exact (SOp2_ar .Add)
  exact rfl
  exact rfl
  exact rfl
  exact SBF_nil
  refine SE_bin ?_ ?_ ?_
  refine SE_sub ?_ ?_ ?_
  exact (SE_loc (i := 4) (k := .cell) rfl nofun)
  exact (SE_loc (i := 1) (k := .local) rfl nofun)
  exact rfl
  refine SE_sub ?_ ?_ ?_
  exact (SE_loc (i := 3) (k := .cell) rfl nofun)
  refine SE_bin ?_ ?_ ?_
  exact (SE_loc (i := 2) (k := .cell) rfl nofun)
  exact (SE_loc (i := 1) (k := .local) rfl nofun)
  exact (SOp2_ar .Sub)
  exact rfl
  exact (SOp2_ar .Mult)
  exact (TgtOk_name (i := 1) rfl)
  exact (fun _ _ => rfl)
  exact SL_nil
  exact rfl
  exact rfl
  exact rfl
  exact (.inl ⟨_, rfl⟩)
  exact SL_nil
  exact rfl
  exact SC_append
  exact PySem.F.slot_list_append
  exact PySem.F.type_list_append
  exact (fun _ => rfl)
  exact rfl
  exact rfl
  exact SSs_nil
  exact rfl
  exact (.inr rfl)
  exact rfl
  exact (fun _ _ => rfl)
  refine SSs_cons ?_ ?_
  refine SS_ret ?_
  exact (SE_loc (i := 6) (k := .cell) rfl nofun)
  exact SSs_nil
  exact SSs_nil

noncomputable def P_law_series_5 : ST := (sAsg 7 (pCall 619 (pCons (pOp2 bIdx (pLoc 0) (pVal (V.int 2))) (pCons (pLoc 1) pNil))))
set_option maxHeartbeats 4000000 in
theorem S_law_series_5 {c : Cx} (hG : Gl c) : SS c (fdN (tops 87)) ((fdB (tops 87)).getD 5 (.Pass ⟨0, 0, 0, 0⟩)) P_law_series_5 := by
  refine SS_asg (i := 7) (k := .cell) ?_ ?_ ?_ ?_ ?_
  refine SE_call (i := 10) ?_ ?_ ?_ ?_ ?_ ?_
  exact rfl
  exact hG.f__law_series.1
  exact hG.f__law_series.2
  refine SL_cons ?_ ?_ ?_
  refine SE_sub ?_ ?_ ?_
  exact (SE_loc (i := 0) (k := .local) rfl nofun)
  exact SE_intV
  exact rfl
  refine SL_cons ?_ ?_ ?_
  exact (SE_loc (i := 1) (k := .local) rfl nofun)
  exact SL_nil
  exact rfl
  exact rfl
  exact rfl
  exact rfl
  exact rfl
  exact (.inr rfl)
  exact rfl
  exact (.inl rfl)

noncomputable def P_law_series_6 : ST := (sIf (tCmp bEq (pLoc 2) (pVal (V.str [97, 108, 116]))) (sCons (sRet (pComp (pCompR [none, none, some 5, some 7] (tgName 1) (pVal (V.int 0)) (pOp2 (bAr .Add) (pLoc 1) (pVal (V.int 1))) tTrue (pOp2 (bAr .Add) (pOp2 bIdx (pLoc 2) (pLoc 1)) (pOp2 bIdx (pLoc 3) (pLoc 1))))))
    sNil) sNil)
set_option maxHeartbeats 4000000 in
theorem S_law_series_6 {c : Cx} (hG : Gl c) : SS c (fdN (tops 87)) ((fdB (tops 87)).getD 6 (.Pass ⟨0, 0, 0, 0⟩)) P_law_series_6 := by
  refine SS_if ?_ ?_ ?_
  refine SB_cmp ?_ ?_ ?_ ?_
  exact (SE_loc (i := 2) (k := .cell) rfl nofun)
  exact (SE_strL (l := [97, 108, 116]) rfl)
  exact SCmp_eq
  exact rfl
  refine SSs_cons ?_ ?_
  refine SS_ret ?_
  refine SE_comp ?_
  refine SComp_R (fr := [none, none, some 5, some 7]) ?_ ?_ ?_ ?_ ?_ ?_
  exact (by exact ⟨rfl, by decide +kernel, by decide +kernel, by decide +kernel⟩)
  refine SRg_1 (j := 9) ?_ ?_ ?_ ?_ ?_ ?_
  exact rfl
  exact hG.b_range.1
  exact hG.b_range.2
  refine SE_bin ?_ ?_ ?_
  exact (SE_loc (i := 1) (k := .local) rfl nofun)
  exact SE_intV
  exact (SOp2_ar .Add)
  exact rfl
  exact rfl
  exact SBF_nil
  refine SE_bin ?_ ?_ ?_
  refine SE_sub ?_ ?_ ?_
  exact (SE_loc (i := 2) (k := .cell) rfl nofun)
  exact (SE_loc (i := 1) (k := .local) rfl nofun)
  exact rfl
  refine SE_sub ?_ ?_ ?_
  exact (SE_loc (i := 3) (k := .cell) rfl nofun)
  exact (SE_loc (i := 1) (k := .local) rfl nofun)
  exact rfl
  exact (SOp2_ar .Add)
  exact (TgtOk_name (i := 1) rfl)
  exact (fun _ _ => rfl)
  exact SSs_nil
  exact SSs_nil

noncomputable def P_law_series_7 : ST := (sRet (pComp (pCompR [none, none, none, none, some 5, some 7] (tgName 1) (pVal (V.int 0)) (pOp2 (bAr .Add) (pLoc 1) (pVal (V.int 1))) tTrue (pBlt bSum (pCons (pComp (pCompR [none, none, some 1, some 4, some 5] (tgName 1) (pVal (V.int 0)) (pOp2 (bAr .Add) (pLoc 1) (pVal (V.int 1))) tTrue (pOp2 (bAr .Mult) (pOp2 bIdx (pLoc 3) (pLoc 1)) (pOp2 bIdx (pLoc 4) (pOp2 (bAr .Sub) (pLoc 2) (pLoc 1)))))) pNil)))))
set_option maxHeartbeats 4000000 in
theorem S_law_series_7 {c : Cx} (hG : Gl c) : SS c (fdN (tops 87)) ((fdB (tops 87)).getD 7 (.Pass ⟨0, 0, 0, 0⟩)) P_law_series_7 := by
  refine SS_ret ?_
  refine SE_comp ?_
  refine SComp_R (fr := [none, none, none, none, some 5, some 7]) ?_ ?_ ?_ ?_ ?_ ?_
  exact (by exact ⟨rfl, by decide +kernel, by decide +kernel, by decide +kernel⟩)
  refine SRg_1 (j := 9) ?_ ?_ ?_ ?_ ?_ ?_
  exact rfl
  exact hG.b_range.1
  exact hG.b_range.2
  refine SE_bin ?_ ?_ ?_
  exact (SE_loc (i := 1) (k := .local) rfl nofun)
  exact SE_intV
  exact (SOp2_ar .Add)
  exact rfl
  exact rfl
  exact SBF_nil
  refine SE_blt (i := 2) (fv := .builtin "sum") ?_ ?_ ?_ ?_ ?_ ?_ ?_ ?_
  exact rfl
  exact hG.b_sum.1
  exact hG.b_sum.2
  exact SC_sum
  refine SL_cons ?_ ?_ ?_
  refine SE_comp ?_
  refine SComp_R (fr := [none, none, some 1, some 4, some 5]) ?_ ?_ ?_ ?_ ?_ ?_
  exact (by exact ⟨rfl, by decide +kernel, by decide +kernel, by decide +kernel⟩)
  refine SRg_1 (j := 3) ?_ ?_ ?_ ?_ ?_ ?_
  exact rfl
  exact hG.b_range.1
  exact hG.b_range.2
  refine SE_bin ?_ ?_ ?_
  exact (SE_loc (i := 1) (k := .cell) rfl nofun)
  exact SE_intV
  exact (SOp2_ar .Add)
  exact rfl
  exact rfl
  exact SBF_nil
  refine SE_bin ?_ ?_ ?_
  refine SE_sub ?_ ?_ ?_
  exact (SE_loc (i := 3) (k := .cell) rfl nofun)
  exact (SE_loc (i := 1) (k := .local) rfl nofun)
  exact rfl
  refine SE_sub ?_ ?_ ?_
  exact (SE_loc (i := 4) (k := .cell) rfl nofun)
  refine SE_bin ?_ ?_ ?_
  exact (SE_loc (i := 2) (k := .cell) rfl nofun)
  exact (SE_loc (i := 1) (k := .local) rfl nofun)
  exact (SOp2_ar .Sub)
  exact rfl
  exact (SOp2_ar .Mult)
  exact (TgtOk_name (i := 1) rfl)
  exact (fun _ _ => rfl)
  exact SL_nil
  exact rfl
  exact rfl
  exact rfl
  exact (.inl ⟨_, rfl⟩)
  exact (TgtOk_cell (i := 1) rfl (by decide))
  exact (fun _ _ => rfl)

noncomputable def P_law_series : ST := (sCons P_law_series_0 (sCons P_law_series_1 (sCons P_law_series_2 (sCons P_law_series_3 (sCons P_law_series_4 (sCons P_law_series_5 (sCons P_law_series_6 (sCons P_law_series_7 sNil))))))))
theorem R_law_series {c : Cx} : ∀ (N : Names) (b : List Stmt), b.length = 8 → SS c N (b.getD 0 (.Pass ⟨0, 0, 0, 0⟩)) P_law_series_0 → SS c N (b.getD 1 (.Pass ⟨0, 0, 0, 0⟩)) P_law_series_1 → SS c N (b.getD 2 (.Pass ⟨0, 0, 0, 0⟩)) P_law_series_2 → SS c N (b.getD 3 (.Pass ⟨0, 0, 0, 0⟩)) P_law_series_3 → SS c N (b.getD 4 (.Pass ⟨0, 0, 0, 0⟩)) P_law_series_4 → SS c N (b.getD 5 (.Pass ⟨0, 0, 0, 0⟩)) P_law_series_5 → SS c N (b.getD 6 (.Pass ⟨0, 0, 0, 0⟩)) P_law_series_6 → SS c N (b.getD 7 (.Pass ⟨0, 0, 0, 0⟩)) P_law_series_7 → SSs c N b P_law_series := by
    intro N b hl h0 h1 h2 h3 h4 h5 h6 h7
    refine SSs_all ?_
    refine SSs_drop (k := 0) (by rw [hl]; decide) h0 ?_
    refine SSs_drop (k := 1) (by rw [hl]; decide) h1 ?_
    refine SSs_drop (k := 2) (by rw [hl]; decide) h2 ?_
    refine SSs_drop (k := 3) (by rw [hl]; decide) h3 ?_
    refine SSs_drop (k := 4) (by rw [hl]; decide) h4 ?_
    refine SSs_drop (k := 5) (by rw [hl]; decide) h5 ?_
    refine SSs_drop (k := 6) (by rw [hl]; decide) h6 ?_
    refine SSs_drop (k := 7) (by rw [hl]; decide) h7 ?_
    exact SSs_dropEnd (Nat.le_of_eq hl)
theorem S_law_series {c : Cx} (hG : Gl c) : SSs c (fdN (tops 87)) (fdB (tops 87)) P_law_series := @R_law_series c _ _ (by decide +kernel) (@S_law_series_0 c hG) (@S_law_series_1 c hG) (@S_law_series_2 c hG) (@S_law_series_3 c hG) (@S_law_series_4 c hG) (@S_law_series_5 c hG) (@S_law_series_6 c hG) (@S_law_series_7 c hG)

noncomputable def P_law_counted_0 : ST := (sAsg 2 (pCall 589 (pCons pDict0 (pCons (pVal (V.int 99999)) (pCons (pList pNil) pNil)))))
set_option maxHeartbeats 4000000 in
theorem S_law_counted_0 {c : Cx} (hG : Gl c) : SS c (fdN (tops 88)) ((fdB (tops 88)).getD 0 (.Pass ⟨0, 0, 0, 0⟩)) P_law_counted_0 := by
  refine SS_asg (i := 2) (k := .local) ?_ ?_ ?_ ?_ ?_
  refine SE_call (i := 4) ?_ ?_ ?_ ?_ ?_ ?_
  exact rfl
  exact hG.f_PlainHost.1
  exact hG.f_PlainHost.2
  refine SL_cons ?_ ?_ ?_
  exact SE_dict0
  refine SL_cons ?_ ?_ ?_
  exact SE_intV
  refine SL_cons ?_ ?_ ?_
  refine SE_list ?_
  exact SL_nil
  exact SL_nil
  exact rfl
  exact rfl
  exact rfl
  exact rfl
  exact rfl
  exact rfl
  exact (.inl rfl)
  exact rfl
  exact (.inl rfl)

noncomputable def P_law_counted_1 : ST := (sIf (tCmp (bIs false) (pCall 551 (pCons (pTup (pCons (pVal (V.str [99, 97, 116])) (pCons (pTup (pCons (pVal (V.str [110, 111, 119])) (pCons (pLoc 0) (pCons (pCall 208 (pCons (pVal (V.str [118, 97, 114])) (pCons (pVal (V.none)) (pCons (pVal (V.str [86])) pNil)))) pNil)))) (pCons (pTup (pCons (pVal (V.str [102, 97, 105, 108])) pNil)) pNil)))) (pCons (pOp2 bMulS (pVal (V.str [49])) (pLoc 1)) (pCons (pVal (V.bool true)) (pCons (pLoc 2) pNil))))) (pVal (V.none))) (sCons (sRet (pVal (V.none)))
    sNil) sNil)
set_option maxHeartbeats 4000000 in
theorem S_law_counted_1 {c : Cx} (hG : Gl c) : SS c (fdN (tops 88)) ((fdB (tops 88)).getD 1 (.Pass ⟨0, 0, 0, 0⟩)) P_law_counted_1 := by
  refine SS_if ?_ ?_ ?_
  refine SB_cmp ?_ ?_ ?_ ?_
  refine SE_call (i := 5) ?_ ?_ ?_ ?_ ?_ ?_
  exact rfl
  exact hG.f_match_compiled.1
  exact hG.f_match_compiled.2
  refine SL_cons ?_ ?_ ?_
  refine SE_tup ?_
  refine SL_cons ?_ ?_ ?_
  exact (SE_strL (l := [99, 97, 116]) rfl)
  refine SL_cons ?_ ?_ ?_
  refine SE_tup ?_
  refine SL_cons ?_ ?_ ?_
  exact (SE_strL (l := [110, 111, 119]) rfl)
  refine SL_cons ?_ ?_ ?_
  exact (SE_loc (i := 0) (k := .local) rfl nofun)
  refine SL_cons ?_ ?_ ?_
  refine SE_call (i := 6) ?_ ?_ ?_ ?_ ?_ ?_
  exact rfl
  exact hG.f_NameRef.1
  exact hG.f_NameRef.2
  refine SL_cons ?_ ?_ ?_
  exact (SE_strL (l := [118, 97, 114]) rfl)
  refine SL_cons ?_ ?_ ?_
  exact SE_noneV
  refine SL_cons ?_ ?_ ?_
  exact (SE_strL (l := [86]) rfl)
  exact SL_nil
  exact rfl
  exact rfl
  exact rfl
  exact rfl
  exact rfl
  exact SL_nil
  exact rfl
  exact rfl
  exact rfl
  refine SL_cons ?_ ?_ ?_
  refine SE_tup ?_
  refine SL_cons ?_ ?_ ?_
  exact (SE_strL (l := [102, 97, 105, 108]) rfl)
  exact SL_nil
  exact rfl
  exact SL_nil
  exact rfl
  exact rfl
  exact rfl
  refine SL_cons ?_ ?_ ?_
  refine SE_bin ?_ ?_ ?_
  exact (SE_strL (l := [49]) rfl)
  exact (SE_loc (i := 1) (k := .local) rfl nofun)
  exact SOp2_muls
  refine SL_cons ?_ ?_ ?_
  exact SE_boolV
  refine SL_cons ?_ ?_ ?_
  exact (SE_loc (i := 2) (k := .local) rfl nofun)
  exact SL_nil
  exact rfl
  exact rfl
  exact rfl
  exact rfl
  exact rfl
  exact rfl
  exact SE_noneV
  exact SCmp_isnot
  exact rfl
  refine SSs_cons ?_ ?_
  refine SS_ret ?_
  exact SE_noneV
  exact SSs_nil
  exact SSs_nil

noncomputable def P_law_counted_2 : ST := (sAsg 3 (pComp (pCompL [none, none, none, none] (tgTwo 1 2) (pAttr 14 (pLoc 2)) tTrue (pBlt bLen (pCons (pLoc 2) pNil)))))
set_option maxHeartbeats 4000000 in
theorem S_law_counted_2 {c : Cx} (hG : Gl c) : SS c (fdN (tops 88)) ((fdB (tops 88)).getD 2 (.Pass ⟨0, 0, 0, 0⟩)) P_law_counted_2 := by
  refine SS_asg (i := 3) (k := .cell) ?_ ?_ ?_ ?_ ?_
  refine SE_comp ?_
  refine SComp_L (fr := [none, none, none, none]) ?_ ?_ ?_ ?_ ?_ ?_
  exact (by exact ⟨rfl, by decide +kernel, by decide +kernel, by decide +kernel⟩)
  refine SE_attr (k := 14) ?_ ?_ ?_
  exact (SE_loc (i := 2) (k := .local) rfl nofun)
  exact (fun _ _ => rfl)
  exact rfl
  exact SBF_nil
  refine SE_blt (i := 3) (fv := .builtin "len") ?_ ?_ ?_ ?_ ?_ ?_ ?_ ?_
  exact rfl
  exact hG.b_len.1
  exact hG.b_len.2
  exact SC_len
  refine SL_cons ?_ ?_ ?_
  exact (SE_loc (i := 2) (k := .local) rfl nofun)
  exact SL_nil
  exact rfl
  exact rfl
  exact rfl
  exact (.inl ⟨_, rfl⟩)
  exact (TgtOk_two (i := 1) (j := 2) rfl rfl (by decide))
  exact (fun _ _ => rfl)
  exact rfl
  exact (.inr rfl)
  exact rfl
  exact (.inr rfl)

noncomputable def P_law_counted_3 : ST := (sRet (pComp (pCompR [none, none, some 3] (tgName 1) (pVal (V.int 0)) (pOp2 (bAr .Add) (pLoc 1) (pVal (V.int 1))) tTrue (pLm bCount (pLoc 2) (pCons (pLoc 1) pNil)))))
set_option maxHeartbeats 4000000 in
theorem S_law_counted_3 {c : Cx} (hG : Gl c) : SS c (fdN (tops 88)) ((fdB (tops 88)).getD 3 (.Pass ⟨0, 0, 0, 0⟩)) P_law_counted_3 := by
  refine SS_ret ?_
  refine SE_comp ?_
  refine SComp_R (fr := [none, none, some 3]) ?_ ?_ ?_ ?_ ?_ ?_
  exact (by exact ⟨rfl, by decide +kernel, by decide +kernel, by decide +kernel⟩)
  refine SRg_1 (j := 7) ?_ ?_ ?_ ?_ ?_ ?_
  exact rfl
  exact hG.b_range.1
  exact hG.b_range.2
  refine SE_bin ?_ ?_ ?_
  exact (SE_loc (i := 1) (k := .local) rfl nofun)
  exact SE_intV
  exact (SOp2_ar .Add)
  exact rfl
  exact rfl
  exact SBF_nil
  refine SE_lm (id := "list.count") ?_ ?_ ?_ ?_ ?_ ?_ ?_
  exact (SE_loc (i := 2) (k := .cell) rfl nofun)
  refine SL_cons ?_ ?_ ?_
  exact (SE_loc (i := 1) (k := .local) rfl nofun)
  exact SL_nil
  exact rfl
  exact SC_count
  exact PySem.F.slot_list_count
  exact PySem.F.type_list_count
  exact (fun _ => rfl)
  exact rfl
  exact (TgtOk_name (i := 1) rfl)
  exact (fun _ _ => rfl)

noncomputable def P_law_counted : ST := (sCons P_law_counted_0 (sCons P_law_counted_1 (sCons P_law_counted_2 (sCons P_law_counted_3 sNil))))
theorem R_law_counted {c : Cx} : ∀ (N : Names) (b : List Stmt), b.length = 4 → SS c N (b.getD 0 (.Pass ⟨0, 0, 0, 0⟩)) P_law_counted_0 → SS c N (b.getD 1 (.Pass ⟨0, 0, 0, 0⟩)) P_law_counted_1 → SS c N (b.getD 2 (.Pass ⟨0, 0, 0, 0⟩)) P_law_counted_2 → SS c N (b.getD 3 (.Pass ⟨0, 0, 0, 0⟩)) P_law_counted_3 → SSs c N b P_law_counted := by
    intro N b hl h0 h1 h2 h3
    refine SSs_all ?_
    refine SSs_drop (k := 0) (by rw [hl]; decide) h0 ?_
    refine SSs_drop (k := 1) (by rw [hl]; decide) h1 ?_
    refine SSs_drop (k := 2) (by rw [hl]; decide) h2 ?_
    refine SSs_drop (k := 3) (by rw [hl]; decide) h3 ?_
    exact SSs_dropEnd (Nat.le_of_eq hl)
theorem S_law_counted {c : Cx} (hG : Gl c) : SSs c (fdN (tops 88)) (fdB (tops 88)) P_law_counted := @R_law_counted c _ _ (by decide +kernel) (@S_law_counted_0 c hG) (@S_law_counted_1 c hG) (@S_law_counted_2 c hG) (@S_law_counted_3 c hG)

noncomputable def P_law_0 : ST := (sAsg 1 (pList (pCons (pVal (V.int 0)) (pCons (pVal (V.int 0)) (pCons (pVal (V.int 3)) (pCons (pVal (V.int 1)) (pCons (pVal (V.int 1)) (pCons (pVal (V.int 2)) (pCons (pVal (V.int 3)) (pCons (pVal (V.int 4)) (pCons (pVal (V.int 3)) (pCons (pVal (V.int 0)) (pCons (pVal (V.int 0)) (pCons (pVal (V.int 0)) (pCons (pVal (V.int 0)) (pCons (pVal (V.int 0)) (pCons (pVal (V.int 0)) pNil)))))))))))))))))
set_option maxHeartbeats 4000000 in
theorem S_law_0 {c : Cx} (hG : Gl c) : SS c (fdN (tops 89)) ((fdB (tops 89)).getD 0 (.Pass ⟨0, 0, 0, 0⟩)) P_law_0 := by
  refine SS_asg (i := 1) (k := .local) ?_ ?_ ?_ ?_ ?_
  refine SE_list ?_
  refine SL_cons ?_ ?_ ?_
  exact SE_intV
  refine SL_cons ?_ ?_ ?_
  exact SE_intV
  refine SL_cons ?_ ?_ ?_
  exact SE_intV
  refine SL_cons ?_ ?_ ?_
  exact SE_intV
  refine SL_cons ?_ ?_ ?_
  exact SE_intV
  refine SL_cons ?_ ?_ ?_
  exact SE_intV
  refine SL_cons ?_ ?_ ?_
  exact SE_intV
  refine SL_cons ?_ ?_ ?_
  exact SE_intV
  refine SL_cons ?_ ?_ ?_
  exact SE_intV
  refine SL_cons ?_ ?_ ?_
  exact SE_intV
  refine SL_cons ?_ ?_ ?_
  exact SE_intV
  refine SL_cons ?_ ?_ ?_
  exact SE_intV
  refine SL_cons ?_ ?_ ?_
  exact SE_intV
  refine SL_cons ?_ ?_ ?_
  exact SE_intV
  refine SL_cons ?_ ?_ ?_
  exact SE_intV
  exact SL_nil
  exact rfl
  exact rfl
  exact rfl
  exact rfl
  exact rfl
  exact rfl
  exact rfl
  exact rfl
  exact rfl
  exact rfl
  exact rfl
  exact rfl
  exact rfl
  exact rfl
  exact rfl
  exact rfl
  exact (.inl rfl)
  exact rfl
  exact (.inl rfl)

noncomputable def P_law_1 : ST := (sAsg 3 (pAddL (pComp (pCompL [none, none, none, none] (tgName 1) (pSl (pLoc 0) (pVal V.none) (pVal (V.int 15)) (pVal V.none)) tTrue (pBlt bAbs (pCons (pBlt bInt (pCons (pLoc 1) pNil)) pNil)))) (pSl (pLoc 1) (pBlt bLen (pCons (pSl (pLoc 0) (pVal V.none) (pVal (V.int 15)) (pVal V.none)) pNil)) (pVal V.none) (pVal V.none))))
set_option maxHeartbeats 4000000 in
theorem S_law_1 {c : Cx} (hG : Gl c) : SS c (fdN (tops 89)) ((fdB (tops 89)).getD 1 (.Pass ⟨0, 0, 0, 0⟩)) P_law_1 := by
  refine SS_asg (i := 3) (k := .local) ?_ ?_ ?_ ?_ ?_
  refine SE_addl ?_ ?_
  refine SE_comp ?_
  refine SComp_L (fr := [none, none, none, none]) ?_ ?_ ?_ ?_ ?_ ?_
  exact (by exact ⟨rfl, by decide +kernel, by decide +kernel, by decide +kernel⟩)
  refine SE_slice ?_ ?_ ?_ ?_
  exact (SE_loc (i := 0) (k := .local) rfl nofun)
  exact SP_none
  refine SP_some ?_
  exact SE_intV
  exact SP_none
  exact SBF_nil
  refine SE_blt (i := 2) (fv := .builtin "abs") ?_ ?_ ?_ ?_ ?_ ?_ ?_ ?_
  exact rfl
  exact hG.b_abs.1
  exact hG.b_abs.2
  exact SC_abs
  refine SL_cons ?_ ?_ ?_
  refine SE_blt (i := 3) (fv := .type "int") ?_ ?_ ?_ ?_ ?_ ?_ ?_ ?_
  exact rfl
  exact hG.b_int.1
  exact hG.b_int.2
  exact SC_int
  refine SL_cons ?_ ?_ ?_
  exact (SE_loc (i := 1) (k := .local) rfl nofun)
  exact SL_nil
  exact rfl
  exact rfl
  exact rfl
  exact (.inr ⟨_, rfl⟩)
  exact SL_nil
  exact rfl
  exact rfl
  exact rfl
  exact (.inl ⟨_, rfl⟩)
  exact (TgtOk_name (i := 1) rfl)
  exact (fun _ _ => rfl)
  refine SE_slice ?_ ?_ ?_ ?_
  exact (SE_loc (i := 1) (k := .local) rfl nofun)
  refine SP_some ?_
  refine SE_blt (i := 10) (fv := .builtin "len") ?_ ?_ ?_ ?_ ?_ ?_ ?_ ?_
  exact rfl
  exact hG.b_len.1
  exact hG.b_len.2
  exact SC_len
  refine SL_cons ?_ ?_ ?_
  refine SE_slice ?_ ?_ ?_ ?_
  exact (SE_loc (i := 0) (k := .local) rfl nofun)
  exact SP_none
  refine SP_some ?_
  exact SE_intV
  exact SP_none
  exact SL_nil
  exact rfl
  exact rfl
  exact rfl
  exact (.inl ⟨_, rfl⟩)
  exact SP_none
  exact SP_none
  exact rfl
  exact (.inl rfl)
  exact rfl
  exact (.inl rfl)

noncomputable def P_law_2 : ST := (sTwo 2 4 (pOp2 bIdx (pList (pCons (pTup (pCons (pVal (V.int 2)) (pCons (pVal (V.int 3)) pNil))) (pCons (pTup (pCons (pVal (V.int 3)) (pCons (pVal (V.int 4)) pNil))) (pCons (pTup (pCons (pVal (V.int 2)) (pCons (pVal (V.int 5)) pNil))) (pCons (pTup (pCons (pVal (V.int 3)) (pCons (pVal (V.int 5)) pNil))) (pCons (pTup (pCons (pVal (V.int 2)) (pCons (pVal (V.int 7)) pNil))) pNil)))))) (pCall 600 (pCons (pLoc 3) (pCons (pVal (V.int 5)) pNil)))))
set_option maxHeartbeats 4000000 in
theorem S_law_2 {c : Cx} (hG : Gl c) : SS c (fdN (tops 89)) ((fdB (tops 89)).getD 2 (.Pass ⟨0, 0, 0, 0⟩)) P_law_2 := by
  refine SS_two (i := 2) (j := 4) (k := .local) (k' := .local) ?_ ?_ ?_ ?_ ?_ ?_ ?_ ?_ ?_
  refine SE_sub ?_ ?_ ?_
  refine SE_list ?_
  refine SL_cons ?_ ?_ ?_
  refine SE_tup ?_
  refine SL_cons ?_ ?_ ?_
  exact SE_intV
  refine SL_cons ?_ ?_ ?_
  exact SE_intV
  exact SL_nil
  exact rfl
  exact rfl
  refine SL_cons ?_ ?_ ?_
  refine SE_tup ?_
  refine SL_cons ?_ ?_ ?_
  exact SE_intV
  refine SL_cons ?_ ?_ ?_
  exact SE_intV
  exact SL_nil
  exact rfl
  exact rfl
  refine SL_cons ?_ ?_ ?_
  refine SE_tup ?_
  refine SL_cons ?_ ?_ ?_
  exact SE_intV
  refine SL_cons ?_ ?_ ?_
  exact SE_intV
  exact SL_nil
  exact rfl
  exact rfl
  refine SL_cons ?_ ?_ ?_
  refine SE_tup ?_
  refine SL_cons ?_ ?_ ?_
  exact SE_intV
  refine SL_cons ?_ ?_ ?_
  exact SE_intV
  exact SL_nil
  exact rfl
  exact rfl
  refine SL_cons ?_ ?_ ?_
  refine SE_tup ?_
  refine SL_cons ?_ ?_ ?_
  exact SE_intV
  refine SL_cons ?_ ?_ ?_
  exact SE_intV
  exact SL_nil
  exact rfl
  exact rfl
  exact SL_nil
  exact rfl
  exact rfl
  exact rfl
  exact rfl
  exact rfl
  refine SE_call (i := 11) ?_ ?_ ?_ ?_ ?_ ?_
  exact rfl
  exact hG.f__law_pick.1
  exact hG.f__law_pick.2
  refine SL_cons ?_ ?_ ?_
  exact (SE_loc (i := 3) (k := .local) rfl nofun)
  refine SL_cons ?_ ?_ ?_
  exact SE_intV
  exact SL_nil
  exact rfl
  exact rfl
  exact rfl
  exact rfl
  exact rfl
  exact rfl
  exact rfl
  exact (.inl rfl)
  exact (.inl rfl)
  exact rfl
  exact rfl
  exact rfl
  exact (swap_none rfl _ _)

noncomputable def P_law_3 : ST := (sAsg 5 (pOp2 (bAr .Sub) (pOp2 (bAr .Sub) (pOp2 (bAr .Mult) (pLoc 2) (pLoc 4)) (pLoc 2)) (pLoc 4)))
set_option maxHeartbeats 4000000 in
theorem S_law_3 {c : Cx} (hG : Gl c) : SS c (fdN (tops 89)) ((fdB (tops 89)).getD 3 (.Pass ⟨0, 0, 0, 0⟩)) P_law_3 := by
  refine SS_asg (i := 5) (k := .local) ?_ ?_ ?_ ?_ ?_
  refine SE_bin ?_ ?_ ?_
  refine SE_bin ?_ ?_ ?_
  refine SE_bin ?_ ?_ ?_
  exact (SE_loc (i := 2) (k := .local) rfl nofun)
  exact (SE_loc (i := 4) (k := .local) rfl nofun)
  exact (SOp2_ar .Mult)
  exact (SE_loc (i := 2) (k := .local) rfl nofun)
  exact (SOp2_ar .Sub)
  exact (SE_loc (i := 4) (k := .local) rfl nofun)
  exact (SOp2_ar .Sub)
  exact rfl
  exact (.inl rfl)
  exact rfl
  exact (.inl rfl)

noncomputable def P_law_4 : ST := (sAsg 6 (pCall 624 (pCons (pTup (pCons (pVal (V.str [97, 114, 98, 110, 111])) (pCons (pTup (pCons (pVal (V.str [97, 108, 116])) (pCons (pTup (pCons (pVal (V.str [108, 101, 110])) (pCons (pLoc 2) pNil))) (pCons (pTup (pCons (pVal (V.str [108, 101, 110])) (pCons (pLoc 4) pNil))) pNil)))) pNil))) (pCons (pOp2 (bAr .Add) (pLoc 5) (pLoc 2)) pNil))))
set_option maxHeartbeats 4000000 in
theorem S_law_4 {c : Cx} (hG : Gl c) : SS c (fdN (tops 89)) ((fdB (tops 89)).getD 4 (.Pass ⟨0, 0, 0, 0⟩)) P_law_4 := by
  refine SS_asg (i := 6) (k := .local) ?_ ?_ ?_ ?_ ?_
  refine SE_call (i := 12) ?_ ?_ ?_ ?_ ?_ ?_
  exact rfl
  exact hG.f__law_counted.1
  exact hG.f__law_counted.2
  refine SL_cons ?_ ?_ ?_
  refine SE_tup ?_
  refine SL_cons ?_ ?_ ?_
  exact (SE_strL (l := [97, 114, 98, 110, 111]) rfl)
  refine SL_cons ?_ ?_ ?_
  refine SE_tup ?_
  refine SL_cons ?_ ?_ ?_
  exact (SE_strL (l := [97, 108, 116]) rfl)
  refine SL_cons ?_ ?_ ?_
  refine SE_tup ?_
  refine SL_cons ?_ ?_ ?_
  exact (SE_strL (l := [108, 101, 110]) rfl)
  refine SL_cons ?_ ?_ ?_
  exact (SE_loc (i := 2) (k := .local) rfl nofun)
  exact SL_nil
  exact rfl
  exact rfl
  refine SL_cons ?_ ?_ ?_
  refine SE_tup ?_
  refine SL_cons ?_ ?_ ?_
  exact (SE_strL (l := [108, 101, 110]) rfl)
  refine SL_cons ?_ ?_ ?_
  exact (SE_loc (i := 4) (k := .local) rfl nofun)
  exact SL_nil
  exact rfl
  exact rfl
  exact SL_nil
  exact rfl
  exact rfl
  exact rfl
  exact SL_nil
  exact rfl
  exact rfl
  refine SL_cons ?_ ?_ ?_
  refine SE_bin ?_ ?_ ?_
  exact (SE_loc (i := 5) (k := .local) rfl nofun)
  exact (SE_loc (i := 2) (k := .local) rfl nofun)
  exact (SOp2_ar .Add)
  exact SL_nil
  exact rfl
  exact rfl
  exact rfl
  exact rfl
  exact rfl
  exact (.inl rfl)
  exact rfl
  exact (.inl rfl)

noncomputable def P_law_5 : ST := (sIf (tOr (tCmp (bIs true) (pLoc 6) (pVal (V.none))) (tOr (tCmp bNe (pOp2 (bAr .Mult) (pLm bCount (pLoc 6) (pCons (pVal (V.int 0)) pNil)) (pVal (V.int 2))) (pOp2 (bAr .Mult) (pOp2 (bAr .Sub) (pLoc 2) (pVal (V.int 1))) (pOp2 (bAr .Sub) (pLoc 4) (pVal (V.int 1))))) (tOr (tCmp bNe (pOp2 bIdx (pLoc 6) (pLoc 5)) (pVal (V.int 0))) (tCmp bIn (pVal (V.int 0)) (pSl (pLoc 6) (pOp2 (bAr .Add) (pLoc 5) (pVal (V.int 1))) (pVal V.none) (pVal V.none)))))) (sCons (sRet (pVal (V.bool false)))
    sNil) sNil)
set_option maxHeartbeats 4000000 in
theorem S_law_5 {c : Cx} (hG : Gl c) : SS c (fdN (tops 89)) ((fdB (tops 89)).getD 5 (.Pass ⟨0, 0, 0, 0⟩)) P_law_5 := by
  refine SS_if ?_ ?_ ?_
  refine SB_ors ?_ ?_
  refine SB_cmp ?_ ?_ ?_ ?_
  exact (SE_loc (i := 6) (k := .local) rfl nofun)
  exact SE_noneV
  exact SCmp_is
  exact rfl
  refine SB_ors ?_ ?_
  refine SB_cmp ?_ ?_ ?_ ?_
  refine SE_bin ?_ ?_ ?_
  refine SE_lm (id := "list.count") ?_ ?_ ?_ ?_ ?_ ?_ ?_
  exact (SE_loc (i := 6) (k := .local) rfl nofun)
  refine SL_cons ?_ ?_ ?_
  exact SE_intV
  exact SL_nil
  exact rfl
  exact SC_count
  exact PySem.F.slot_list_count
  exact PySem.F.type_list_count
  exact (fun _ => rfl)
  exact rfl
  exact SE_intV
  exact (SOp2_ar .Mult)
  refine SE_bin ?_ ?_ ?_
  refine SE_bin ?_ ?_ ?_
  exact (SE_loc (i := 2) (k := .local) rfl nofun)
  exact SE_intV
  exact (SOp2_ar .Sub)
  refine SE_bin ?_ ?_ ?_
  exact (SE_loc (i := 4) (k := .local) rfl nofun)
  exact SE_intV
  exact (SOp2_ar .Sub)
  exact (SOp2_ar .Mult)
  exact SCmp_ne
  exact rfl
  refine SB_or ?_ ?_
  refine SB_cmp ?_ ?_ ?_ ?_
  refine SE_sub ?_ ?_ ?_
  exact (SE_loc (i := 6) (k := .local) rfl nofun)
  exact (SE_loc (i := 5) (k := .local) rfl nofun)
  exact rfl
  exact SE_intV
  exact SCmp_ne
  exact rfl
  refine SB_cmp ?_ ?_ ?_ ?_
  exact SE_intV
  refine SE_slice ?_ ?_ ?_ ?_
  exact (SE_loc (i := 6) (k := .local) rfl nofun)
  refine SP_some ?_
  refine SE_bin ?_ ?_ ?_
  exact (SE_loc (i := 5) (k := .local) rfl nofun)
  exact SE_intV
  exact (SOp2_ar .Add)
  exact SP_none
  exact SP_none
  exact SCmp_in
  exact rfl
  refine SSs_cons ?_ ?_
  refine SS_ret ?_
  exact SE_boolV
  exact SSs_nil
  exact SSs_nil

noncomputable def P_law_6 : ST := (sAsg 7 (pOp2 bIdx (pList (pCons (pVal (V.str [99, 97, 116])) (pCons (pVal (V.str [97, 108, 116])) pNil))) (pCall 600 (pCons (pLoc 3) (pCons (pVal (V.int 2)) pNil)))))
set_option maxHeartbeats 4000000 in
theorem S_law_6 {c : Cx} (hG : Gl c) : SS c (fdN (tops 89)) ((fdB (tops 89)).getD 6 (.Pass ⟨0, 0, 0, 0⟩)) P_law_6 := by
  refine SS_asg (i := 7) (k := .local) ?_ ?_ ?_ ?_ ?_
  refine SE_sub ?_ ?_ ?_
  refine SE_list ?_
  refine SL_cons ?_ ?_ ?_
  exact (SE_strL (l := [99, 97, 116]) rfl)
  refine SL_cons ?_ ?_ ?_
  exact (SE_strL (l := [97, 108, 116]) rfl)
  exact SL_nil
  exact rfl
  exact rfl
  refine SE_call (i := 11) ?_ ?_ ?_ ?_ ?_ ?_
  exact rfl
  exact hG.f__law_pick.1
  exact hG.f__law_pick.2
  refine SL_cons ?_ ?_ ?_
  exact (SE_loc (i := 3) (k := .local) rfl nofun)
  refine SL_cons ?_ ?_ ?_
  exact SE_intV
  exact SL_nil
  exact rfl
  exact rfl
  exact rfl
  exact rfl
  exact rfl
  exact rfl
  exact (.inl rfl)
  exact rfl
  exact (.inl rfl)

noncomputable def P_law_7 : ST := (sSwap 8 9 (pTup (pCons (pTup (pCons (pLoc 7) (pCons (pCall 614 (pCons (pLoc 3) pNil)) (pCons (pCall 614 (pCons (pLoc 3) pNil)) pNil)))) (pCons (pCall 600 (pCons (pLoc 3) (pCons (pVal (V.int 6)) pNil))) pNil))))
set_option maxHeartbeats 4000000 in
theorem S_law_7 {c : Cx} (hG : Gl c) : SS c (fdN (tops 89)) ((fdB (tops 89)).getD 7 (.Pass ⟨0, 0, 0, 0⟩)) P_law_7 := by
  refine SS_swap (i := 8) (j := 9) ?_ ?_ ?_ ?_ ?_ ?_ ?_
  refine SE_tup ?_
  refine SL_cons ?_ ?_ ?_
  refine SE_tup ?_
  refine SL_cons ?_ ?_ ?_
  exact (SE_loc (i := 7) (k := .local) rfl nofun)
  refine SL_cons ?_ ?_ ?_
  refine SE_call (i := 13) ?_ ?_ ?_ ?_ ?_ ?_
  exact rfl
  exact hG.f__law_part.1
  exact hG.f__law_part.2
  refine SL_cons ?_ ?_ ?_
  exact (SE_loc (i := 3) (k := .local) rfl nofun)
  exact SL_nil
  exact rfl
  exact rfl
  exact rfl
  refine SL_cons ?_ ?_ ?_
  refine SE_call (i := 13) ?_ ?_ ?_ ?_ ?_ ?_
  exact rfl
  exact hG.f__law_part.1
  exact hG.f__law_part.2
  refine SL_cons ?_ ?_ ?_
  exact (SE_loc (i := 3) (k := .local) rfl nofun)
  exact SL_nil
  exact rfl
  exact rfl
  exact rfl
  exact SL_nil
  exact rfl
  exact rfl
  exact rfl
  refine SL_cons ?_ ?_ ?_
  refine SE_call (i := 11) ?_ ?_ ?_ ?_ ?_ ?_
  exact rfl
  exact hG.f__law_pick.1
  exact hG.f__law_pick.2
  refine SL_cons ?_ ?_ ?_
  exact (SE_loc (i := 3) (k := .local) rfl nofun)
  refine SL_cons ?_ ?_ ?_
  exact SE_intV
  exact SL_nil
  exact rfl
  exact rfl
  exact rfl
  exact rfl
  exact SL_nil
  exact rfl
  exact rfl
  exact rfl
  exact rfl
  exact rfl
  exact rfl
  exact rfl
  exact (swap_two rfl rfl rfl rfl rfl rfl)

noncomputable def P_law_8 : ST := (sRet (pOfT (tCmp bEq (pCall 624 (pCons (pLoc 8) (pCons (pLoc 9) pNil))) (pCall 619 (pCons (pLoc 8) (pCons (pLoc 9) pNil))))))
set_option maxHeartbeats 4000000 in
theorem S_law_8 {c : Cx} (hG : Gl c) : SS c (fdN (tops 89)) ((fdB (tops 89)).getD 8 (.Pass ⟨0, 0, 0, 0⟩)) P_law_8 := by
  refine SS_ret ?_
  refine SE_cmp ?_ ?_ ?_ ?_
  refine SE_call (i := 12) ?_ ?_ ?_ ?_ ?_ ?_
  exact rfl
  exact hG.f__law_counted.1
  exact hG.f__law_counted.2
  refine SL_cons ?_ ?_ ?_
  exact (SE_loc (i := 8) (k := .local) rfl nofun)
  refine SL_cons ?_ ?_ ?_
  exact (SE_loc (i := 9) (k := .local) rfl nofun)
  exact SL_nil
  exact rfl
  exact rfl
  exact rfl
  exact rfl
  refine SE_call (i := 14) ?_ ?_ ?_ ?_ ?_ ?_
  exact rfl
  exact hG.f__law_series.1
  exact hG.f__law_series.2
  refine SL_cons ?_ ?_ ?_
  exact (SE_loc (i := 8) (k := .local) rfl nofun)
  refine SL_cons ?_ ?_ ?_
  exact (SE_loc (i := 9) (k := .local) rfl nofun)
  exact SL_nil
  exact rfl
  exact rfl
  exact rfl
  exact rfl
  exact SCmp_eq
  exact rfl

noncomputable def P_law : ST := (sCons P_law_0 (sCons P_law_1 (sCons P_law_2 (sCons P_law_3 (sCons P_law_4 (sCons P_law_5 (sCons P_law_6 (sCons P_law_7 (sCons P_law_8 sNil)))))))))
theorem R_law {c : Cx} : ∀ (N : Names) (b : List Stmt), b.length = 9 → SS c N (b.getD 0 (.Pass ⟨0, 0, 0, 0⟩)) P_law_0 → SS c N (b.getD 1 (.Pass ⟨0, 0, 0, 0⟩)) P_law_1 → SS c N (b.getD 2 (.Pass ⟨0, 0, 0, 0⟩)) P_law_2 → SS c N (b.getD 3 (.Pass ⟨0, 0, 0, 0⟩)) P_law_3 → SS c N (b.getD 4 (.Pass ⟨0, 0, 0, 0⟩)) P_law_4 → SS c N (b.getD 5 (.Pass ⟨0, 0, 0, 0⟩)) P_law_5 → SS c N (b.getD 6 (.Pass ⟨0, 0, 0, 0⟩)) P_law_6 → SS c N (b.getD 7 (.Pass ⟨0, 0, 0, 0⟩)) P_law_7 → SS c N (b.getD 8 (.Pass ⟨0, 0, 0, 0⟩)) P_law_8 → SSs c N b P_law := by
    intro N b hl h0 h1 h2 h3 h4 h5 h6 h7 h8
    refine SSs_all ?_
    refine SSs_drop (k := 0) (by rw [hl]; decide) h0 ?_
    refine SSs_drop (k := 1) (by rw [hl]; decide) h1 ?_
    refine SSs_drop (k := 2) (by rw [hl]; decide) h2 ?_
    refine SSs_drop (k := 3) (by rw [hl]; decide) h3 ?_
    refine SSs_drop (k := 4) (by rw [hl]; decide) h4 ?_
    refine SSs_drop (k := 5) (by rw [hl]; decide) h5 ?_
    refine SSs_drop (k := 6) (by rw [hl]; decide) h6 ?_
    refine SSs_drop (k := 7) (by rw [hl]; decide) h7 ?_
    refine SSs_drop (k := 8) (by rw [hl]; decide) h8 ?_
    exact SSs_dropEnd (Nat.le_of_eq hl)
theorem S_law {c : Cx} (hG : Gl c) : SSs c (fdN (tops 89)) (fdB (tops 89)) P_law := @R_law c _ _ (by decide +kernel) (@S_law_0 c hG) (@S_law_1 c hG) (@S_law_2 c hG) (@S_law_3 c hG) (@S_law_4 c hG) (@S_law_5 c hG) (@S_law_6 c hG) (@S_law_7 c hG) (@S_law_8 c hG)

noncomputable def ftab : List (Nat × FE) := [
  (23, ⟨2, 4, P_row_of⟩),
  (30, ⟨1, 2, P_is_plain_text⟩),
  (37, ⟨1, 4, P_with_texts_joined⟩),
  (51, ⟨1, 0, P_PatternCode_init⟩),
  (58, ⟨2, 1, P_PatternCode_emit⟩),
  (65, ⟨2, 6, P_PatternCode_put⟩),
  (70, ⟨2, 15, P_PatternCode_begun⟩),
  (77, ⟨2, 8, P_PatternCode_choice⟩),
  (84, ⟨2, 10, P_PatternCode_repeat⟩),
  (91, ⟨3, 6, P_PatternCode_bound⟩),
  (105, ⟨1, 5, P_straightened⟩),
  (112, ⟨1, 4, P_compile_pattern⟩),
  (205, ⟨4, 0, P_NameRef_init⟩),
  (306, ⟨3, 2, P_chars_end⟩),
  (313, ⟨3, 1, P_len_end⟩),
  (320, ⟨2, 0, P_pos_end⟩),
  (334, ⟨3, 1, P_tab_end⟩),
  (348, ⟨1, 1, P_rem_end⟩),
  (355, ⟨3, 1, P_any_at⟩),
  (362, ⟨3, 1, P_notany_at⟩),
  (390, ⟨2, 3, P_arb_ends⟩),
  (397, ⟨2, 4, P_bal_end⟩),
  (404, ⟨2, 3, P_bal_ends⟩),
  (411, ⟨4, 10, P_one_end⟩),
  (418, ⟨3, 2, P_plain_end⟩),
  (425, ⟨4, 5, P_ends_of⟩),
  (439, ⟨7, 0, P_Way_init⟩),
  (446, ⟨2, 1, P_Way_copied⟩),
  (467, ⟨3, 0, P_Match_init⟩),
  (474, ⟨3, 8, P_Match_run⟩),
  (481, ⟨1, 1, P_Match_way_back⟩),
  (488, ⟨3, 9, P_Match_done⟩),
  (495, ⟨3, 7, P_Match_met_once⟩),
  (502, ⟨3, 5, P_Match_ended⟩),
  (509, ⟨3, 9, P_Match_other⟩),
  (516, ⟨3, 3, P_Match_met_often⟩),
  (537, ⟨1, 2, P_named_rows⟩),
  (544, ⟨4, 9, P_match_orders⟩),
  (551, ⟨4, 2, P_match_compiled⟩),
  (565, ⟨4, 0, P_PlainHost_init⟩),
  (579, ⟨3, 0, P_PlainHost_assign⟩),
  (586, ⟨1, 1, P_PlainHost_step⟩),
  (600, ⟨2, 1, P_law_pick⟩),
  (607, ⟨2, 2, P_law_one⟩),
  (614, ⟨1, 3, P_law_part⟩),
  (619, ⟨2, 10, P_law_series⟩),
  (624, ⟨2, 6, P_law_counted⟩),
  (629, ⟨1, 14, P_law⟩)]
noncomputable def FT (a : Nat) : Option FE := ftab.lookup a

theorem hr_none (P : DK) (T0 : Led) : HRel P T0 [] (fun _ => none) [] T0 (fun _ => none) := { nd := List.nodup_nil, obj := fun _ _ h => (by cases h), R := fun p hp => absurd hp List.not_mem_nil, T := fun p hp => .inr hp }
theorem hr_cells (P : DK) (T0 : Led) (cells : Led) (h : (cells.map (·.1)).Nodup) : ∃ own', HRel P T0 cells (fun _ => none) cells T0 own' := by
  obtain ⟨o, r⟩ := (hr_none P T0).pushes cells h fun p hp q hq => absurd hq (by simp)
  rw [List.append_nil, List.nil_append] at r
  exact ⟨o, r⟩
/-- a function called from outside -/
theorem top_call {c : Cx} {A : Around} (hdep : A.depth < recursionLimit) (hA : A.handled = none) {FT : Nat → Option FE} {d : Nat} (hroom : ∀ env, Room (A.deeper env) d) (hF : ∀ a e, FT a = some e → ∃ F, FnOk c a F e.n e.P ∧ F.scope.names.length = e.n + e.k) {s : Shared} (K0 : Below A s.heap [] s.heap) (B : Base c s.heap)
    {key name : Str} {params : Arguments} {scope : Scope} {body : List Stmt} {pm cd doc : Value} {a sc : Addr} {o : Obj} {vs : List V} {ws : List Value} {n k : Nat} {P : ST}
    (ho : s.heap.get? a = some o) (hd : o.data = .func (docDef name params body scope pm cd doc)) (hcd : s.heap.CodeRec cd name)
    (hb : bindArgs (docDef name params body scope pm cd doc) ⟨[.ref sc], []⟩ = pure [(key, Value.ref sc)])
    (hn : scope.names.lookup key = some .local) (hnd : ((cellsFrom 0 scope.names []).map (·.1)).Nodup)
    (hlk : lk key scope.names 0 = some (0, .local)) (hndn : (scope.names.map (·.1)).Nodup) (hdb : scope.names.all (fun p => !(p.1 == ("__debug__" : Str))) = true)
    (hco : scope.isCoroutine = false) (hgen : scope.isGenerator = false) (hk : scope.kind = .function)
    (hS : SSs c scope.names body P) {ob : Obj} (hT : (sc, ob) ∈ c.T0) (hcl : ob.cls = .type "list") (hda : ob.data = .seq ws.toArray n) (hv : VRs c.T0 vs ws)
    (hP : P (callN FT d) (.rol vs :: List.replicate k .un) (fun _ => none) (fun fl _ _ => retV fl = .bool true))
    {R : Result → Shared → Prop} (hR : ∀ h' tk, (∀ b o, s.heap.get? b = some o → h'.get? b = some o) → R (.ok (.ret (.bool true))) { s with heap := h', toks := tk }) :
    codeAny c.M A (.call (.ref a) ⟨[.ref sc], []⟩) R s := by
  refine call_cellsN_ret (binds := [(key, Value.ref sc)]) hdep ho hd B.lim hcd hb ?_ hnd ?_ hco hgen hk
  · intro x hx
    rcases List.mem_cons.mp hx with rfl | hx
    · exact .inl hn
    · cases hx
  intro h₁ tk cells F N CA
  have ca := cellsFrom_addr scope.names (s.heap.objs.size + 1) [] (s.heap.objs.size + 1) (Nat.le_refl _) (fun _ h => by cases h) .nil
  have hca := cellsAre_addr CA
  have cellLow : ∀ p ∈ cells, s.heap.objs.size < p.1 := fun p hp => by
    have : p.1 ∈ (cellsFrom (s.heap.objs.size + 1) scope.names []).map (·.2) := hca ▸ List.mem_map_of_mem hp
    obtain ⟨r, hr, e⟩ := List.mem_map.mp this
    have := ca.1 r hr
    rw [e] at this
    exact this
  let env := envOfC name scope s.heap.objs.size a cd
  let f : Fx := { A := A.deeper env, g := s.heap, env := env, L := s.heap.objs.size, R := [], names := scope.names, mm := fun _ => True }
  have hnm : ∀ x i k, lk x scope.names 0 = some (i, k) → env.kindOf x = some k := fun x i k h => lk_lookup h
  have fb : FB c f :=
    { base := B, hand := hA, kind := hk, glob := rfl, bi := rfl
      bel := ⟨A, s.heap, [], env, K0, Around.frames_deeper K0.stack, rfl, hk⟩
      nms := hnm, lcs := .inl rfl, loc := rfl, mmT := fun _ => trivial, R0 := fun p hp => absurd hp List.not_mem_nil }
  have hnd2 : (cells.map (·.1)).Nodup := by rw [hca]; exact ca.2
  obtain ⟨own', r'⟩ := hr_cells c.dk c.T0 cells hnd2
  have S : St c f c.T0 (.rol vs :: List.replicate k .un) (fun _ => none) h₁ := by
    refine ⟨_, cells, cells, own', F, N, r', fun x i kd mv h1 h2 h3 h4 => ?_, ⟨fun p hp => ⟨cellsAre_cell CA p hp, cellLow p hp⟩, fun _ => ⟨fun x hx => ?_, fun x y b h1 h2 => ?_⟩, trivial⟩, fun p hp => hp⟩
    · rcases i with _ | i
      rotate_left
      ·
        rw [List.getElem?_cons_succ, List.getElem?_replicate] at h3
        split at h3
        · obtain rfl := Option.some.inj h3; exact absurd rfl h4
        · cases h3
      · obtain rfl := Option.some.inj h3
        obtain ⟨_, h5⟩ := lk_get h1
        obtain ⟨_, h6⟩ := lk_get hlk
        rw [Nat.sub_self] at h5 h6
        rw [h5] at h6
        obtain ⟨rfl, rfl⟩ := Prod.mk.inj (Option.some.inj h6)
        have hdb' := List.all_eq_true.mp hdb (x, .local) (List.mem_of_getElem? h5)
        exact ⟨by simpa using hdb', .ref sc, .rol hT hcl hda hv, .inl ⟨hn, rfl, bindL_get hn (by simp) (.head _)⟩⟩
    · obtain ⟨b, hb⟩ := Option.isSome_iff_exists.mp (cellsFrom_has scope.names (s.heap.objs.size + 1) hx)
      obtain ⟨o, ho1, ho2⟩ := cellsAre_get CA hb
      exact ⟨b, o, _, hb, ho1, ho2⟩
    · exact nd_snd ca.2 (lookup_mem h1) (lookup_mem h2)
  have rm : Room f.A d := hroom env
  have sc8 : SC c d (callN FT d) := @callN_sound c FT hF d
  have body := @hS f d (callN FT d) fb rfl rm sc8 c.T0 _ _ { s with heap := h₁, toks := tk } (fun fl _ _ => retV fl = .bool true) (fun fl s' => R (.ok (.ret (match fl with | .ret v => v | _ => .none))) s') S hP ?_
  · exact wpAny_mono body (fun _ _ z => z) fun _ _ z => z.elim
  · intro mf fl T' ρ' H' h' tk' hT' hf S2 q2
    obtain ⟨m2, cs2, news2, own2, X2⟩ := S2
    have hk' := X2.F.keep
    induction hf using FlR.casesOn with
    | next => exact absurd q2 V.noConfusion
    | cont => exact absurd q2 V.noConfusion
    | ret hv' =>
      simp only [retV] at q2
      subst q2
      cases hv'
      exact hR h' tk' hk'

theorem zip_fst : ∀ {ns : List Str} {xs : List Value}, xs.length = ns.length → (ns.zip xs).map (·.1) = ns
  | [], _, _ => by simp
  | n :: ns, [], h => by simp at h
  | n :: ns, x :: xs, h => by simp only [List.zip_cons_cons, List.map_cons]; rw [zip_fst (by simpa using h)]
theorem zip_all : ∀ {L ps : List (Str × Value)}, (∀ p ∈ ps, L.lookup p.1 = some p.2) → (ps.map (·.1)).filterMap (fun n => (L.lookup n).map (n, ·)) = ps ∧ (ps.map (·.1)).filter (fun n => (L.lookup n).isNone) = []
  | L, [], _ => ⟨rfl, rfl⟩
  | L, p :: r, h => by
    obtain ⟨a, b⟩ := zip_all (L := L) (ps := r) fun q hq => h q (.tail _ hq)
    have e := h p (.head _)
    refine ⟨?_, ?_⟩
    · rw [List.map_cons, List.filterMap_cons_some (b := p)]
      · rw [a]
      · rw [e]; rfl
    · rw [List.map_cons, List.filter_cons_of_neg]
      · exact b
      · rw [e]; simp
theorem bind_plain2 {q : FuncData} {args : List Arg} {kwd : List (Option Expr)} {dfl : List Expr} {xs : List Value} {ns : List Str} (ha : args.map (·.arg) = ns) (nd : ns.Nodup) (hl : xs.length = ns.length) :
    bindArgs { q with params := ⟨[], args, none, [], kwd, none, dfl⟩, defaults := .none } ⟨xs, []⟩ = pure (ns.zip xs) := by
  subst ha
  have hz := zip_fst hl
  obtain ⟨e2, e1⟩ := zip_all fun p hp => lookup_nd (by rw [hz]; exact nd) hp
  rw [hz] at e1 e2
  refine (if_neg ?_).trans ((if_neg ?_).trans ?_)
  · simp only [List.map_nil, List.nil_append, hl]; simp
  · simp only [List.map_nil, List.nil_append, List.drop_nil, List.length_nil, Nat.sub_zero, List.take_length, Option.getD_none]
    rw [show List.filter _ _ = ([] : List Str) from e1]
    exact fun h => Bool.noConfusion h
  · simp only [List.map_nil, List.nil_append, List.drop_nil, List.length_nil, Nat.sub_zero, Option.getD_none, List.append_nil, List.zip_nil_right]
    exact congrArg (fun z => (pure z : Sem (List (Str × Value)))) e2
theorem params_eq {p : Arguments} (h1 : p.posonlyargs = []) (h2 : p.kwonlyargs = []) (h3 : p.vararg = none) (h4 : p.kwarg = none) : p = ⟨[], p.args, none, [], p.kw_defaults, none, p.defaults⟩ := by
  cases p
  cases h1; cases h2; cases h3; cases h4
  rfl
theorem fd_eq {fd : FuncData} {p : Arguments} {d : Value} (h : fd.params = p) (hd : fd.defaults = d) : fd = { fd with params := p, defaults := d } := by
  subst h hd
  rfl
theorem bind_plain {fd : FuncData} {xs : List Value} {ns : List Str} (hp : fd.params.posonlyargs = []) (hk : fd.params.kwonlyargs = []) (hv : fd.params.vararg = none) (hw : fd.params.kwarg = none) (hd : fd.defaults = .none)
    (ha : fd.params.args.map (·.arg) = ns) (nd : ns.Nodup) (hl : xs.length = ns.length) : bindArgs fd ⟨xs, []⟩ = pure (ns.zip xs) := by
  rw [fd_eq (params_eq hp hk hv hw) hd]
  exact bind_plain2 ha nd hl

noncomputable def fdOf (K : Frag) (a : Nat) : Option FuncData := match K.lookup a with
  | some ⟨_, _, .func fd, _⟩ => some fd
  | _ => none
theorem fdOf_obj {K : Frag} {a : Nat} {fd : FuncData} (h : fdOf K a = some fd) : ∃ o, K.lookup a = some o ∧ o.data = .func fd := by
  unfold fdOf at h
  split at h
  · rename_i e; obtain rfl := Option.some.inj h; exact ⟨_, e, rfl⟩
  · cases h
noncomputable def fdS : Stmt → Scope
  | .FunctionDef _ _ _ _ _ _ s _ _ _ => s
  | _ => { kind := .module, names := [], isGenerator := false, isCoroutine := false }
theorem fdS_names (st : Stmt) : (fdS st).names = fdN st := by induction st using Stmt.casesOn <;> rfl
noncomputable abbrev reFd (fd : FuncData) (st : Stmt) : FuncData := fnX fd.name fd.qualname fd.params (fdB st) (fdS st) [] fd.defaults fd.kwdefaults fd.doc fd.pyModule fd.annotations fd.code fd.closureTuple
noncomputable def ndB : List Str → Bool
  | [] => true
  | x :: r => !r.contains x && ndB r
theorem ndB_nodup : ∀ {l : List Str}, ndB l = true → l.Nodup
  | [], _ => List.nodup_nil
  | x :: r, h => by
    obtain ⟨h1, h2⟩ := Bool.and_eq_true_iff.mp h
    refine List.nodup_cons.mpr ⟨fun hm => ?_, ndB_nodup h2⟩
    rw [List.contains_iff_mem.mpr hm] at h1
    cases h1
noncomputable def isFnKind : ScopeKind → Bool
  | .function => true
  | _ => false
theorem isFnKind_of : ∀ {k : ScopeKind}, isFnKind k = true → k = .function := by
  intro k h; induction k using ScopeKind.casesOn <;> first | rfl | cases h
noncomputable def fnChk (K : Frag) (st : Stmt) (n k : Nat) (fd : FuncData) : Bool :=
  fd.params.posonlyargs.isEmpty && (fd.params.kwonlyargs.isEmpty && (fd.params.vararg.isNone && (fd.params.kwarg.isNone && (fd.defaults == .none &&
  (fd.params.args.map (·.arg) == ((fdS st).names.take n).map (·.1) && (ndB ((fdS st).names.map (·.1)) && (((fdS st).names.length == n + k) && (ndB ((cellsFrom 0 (fdS st).names []).map (·.1)) &&
  (codeIn K fd.code fd.qualname && (((fdS st).names.take n).all (fun p => p.2 == .local || p.2 == .cell) && ((fdS st).names.all (fun p => !(p.1 == ("__debug__" : Str))) && (!(fdS st).isCoroutine && (!(fdS st).isGenerator && isFnKind (fdS st).kind)))))))))))))
noncomputable def fnsChk (K : Frag) (rows : List (Nat × Stmt × Nat × Nat)) : Bool := rows.all fun r => (fdOf K r.1).any (fnChk K r.2.1 r.2.2.1 r.2.2.2)
noncomputable def fnsAre (K : Frag) (rows : List (Nat × Stmt × Nat × Nat)) : Prop := rows.map (fun r => fdOf K r.1) = rows.map fun r => (fdOf K r.1).map fun fd => reFd fd r.2.1
theorem fn_ok {c : Cx} {rows : List (Nat × Stmt × Nat × Nat)} (h1 : fnsChk c.K rows = true) (h2 : fnsAre c.K rows) {a : Nat} {st : Stmt} {n k : Nat} {P : ST} (hm : (a, st, n, k) ∈ rows) (hS : SSs c (fdN st) (fdB st) P) :
    ∃ F, FnOk c a F n P ∧ F.scope.names.length = n + k := by
  have g1 := List.all_eq_true.mp h1 _ hm
  have g2 : fdOf c.K a = (fdOf c.K a).map fun fd => reFd fd st := List.map_inj_left.mp h2 _ hm
  cases e : fdOf c.K a with
  | none => rw [e] at g1; cases g1
  | some fd =>
  rw [e] at g1 g2
  have g1 : fnChk c.K st n k fd = true := g1
  have g2 : fd = reFd fd st := Option.some.inj g2
  obtain ⟨o, ho, hd⟩ := fdOf_obj e
  unfold fnChk at g1
  simp only [Bool.and_eq_true] at g1
  obtain ⟨p1, p2, p3, p4, p5, p6, p7, p8, p9, p10, p11, p12, p13, p14, p15⟩ := g1
  have e6 := beq_iff_eq.mp p6
  have e8 := beq_iff_eq.mp p8
  have nd := ndB_nodup p7
  refine ⟨⟨fd.name, fd.qualname, fd.params, fdB st, fdS st, fd.defaults, fd.kwdefaults, fd.doc, fd.pyModule, fd.annotations, fd.code, fd.closureTuple⟩, ⟨⟨o, ho, hd.trans (congrArg _ g2)⟩, p10, fun xs hx => ?_, p11, nd, ?_, ndB_nodup p9, p12, ?_, ?_, isFnKind_of p15, ?_⟩, e8⟩
  · refine bind_plain (List.isEmpty_iff.mp p1) (List.isEmpty_iff.mp p2) (Option.isNone_iff_eq_none.mp p3) (Option.isNone_iff_eq_none.mp p4) (beq_iff_eq.mp p5) e6 ?_ ?_
    · exact ((List.take_sublist n _).map _).nodup nd
    · rw [List.length_map, List.length_take, hx]
      show n = min n (fdS st).names.length
      omega
  · show n ≤ (fdS st).names.length
    omega
  · simpa using p13
  · simpa using p14
  · show SSs c (fdS st).names (fdB st) P
    rw [fdS_names]
    exact hS

/-! the names of the text -/
noncomputable def gStr (K : Frag) (x : Str) (l : List Nat) : Bool := match nsIn K mainGlobals x with
  | some (some (.str s _)) => s.cps.toList == l
  | _ => false
noncomputable def gInt (K : Frag) (x : Str) (i : Int) : Bool := match nsIn K mainGlobals x with
  | some (some (.int j _)) => j == i
  | _ => false
noncomputable def strsAre : List Value → List (List Nat) → Bool
  | [], [] => true
  | .str s _ :: r, l :: q => s.cps.toList == l && strsAre r q
  | _, _ => false
noncomputable def gTup (K : Frag) (x : Str) (a : Nat) (l : List (List Nat)) : Bool := (nsIn K mainGlobals x == some (some (.ref a))) && match K.lookup a with
  | some ⟨.type "tuple", none, .seq ws 0, sl⟩ => sl.isEmpty && strsAre ws.toList l
  | _ => false
noncomputable def gFn (K : Frag) (x : Str) (a : Nat) : Bool := (nsIn K mainGlobals x == some (some (.ref a))) && keepIn K (.ref a)
noncomputable def gBt (K : Frag) (x : Str) : Bool := nsIn K mainGlobals x == some none
section
variable {c : Cx} {g : Heap}
theorem gs_str {x : Str} {l : List Nat} (B : Base c g) (h : gStr c.K x l = true) : GS c x (.str l) := by
  unfold gStr at h
  split at h
  · rename_i s t e
    have := beq_iff_eq.mp h
    subst this
    exact ⟨_, mg_of B.X B.gl e, .str _ _⟩
  · cases h
theorem gs_int {x : Str} {i : Int} (B : Base c g) (h : gInt c.K x i = true) : GS c x (.int i) := by
  unfold gInt at h
  split at h
  · rename_i s t e
    have := beq_iff_eq.mp h
    subst this
    exact ⟨_, mg_of B.X B.gl e, .int _ _⟩
  · cases h
theorem strsAre_VRs {T : Led} : ∀ {ws : List Value} {l : List (List Nat)}, strsAre ws l = true → VRs T (l.map .str) ws
  | [], [], _ => .nil
  | [], _ :: _, h => by cases h
  | w :: r, [], h => by induction w using Value.casesOn <;> cases h
  | w :: r, m :: q, h => by
    induction w using Value.casesOn <;> first | cases h | skip
    obtain ⟨h1, h2⟩ := Bool.and_eq_true_iff.mp h
    have := beq_iff_eq.mp h1
    subst this
    exact .cons (.str _ _) (strsAre_VRs h2)
/-- the tuple of a name, and its object -/
theorem gTup_obj {K : Frag} {x : Str} {a : Nat} {l : List (List Nat)} (h : gTup K x a l = true) : nsIn K mainGlobals x = some (some (.ref a)) ∧ ∃ ws, K.lookup a = some (tupObj ws 0) ∧ strsAre ws l = true := by
  obtain ⟨h1, h2⟩ := Bool.and_eq_true_iff.mp h
  refine ⟨beq_iff_eq.mp h1, ?_⟩
  split at h2
  · rename_i ws sl e
    obtain ⟨h3, h4⟩ := Bool.and_eq_true_iff.mp h2
    obtain ⟨ws⟩ := ws
    have : sl = #[] := by simpa using h3
    subst this
    exact ⟨ws, e, h4⟩
  · cases h2
theorem gs_tup {x : Str} {a : Nat} {l : List (List Nat)} (B : Base c g) (h : gTup c.K x a l = true) {ws : List Value} (hk : c.K.lookup a = some (tupObj ws 0)) (hT : (a, tupObj ws 0) ∈ c.T0) : GS c x (.tup (l.map .str)) := by
  obtain ⟨h1, ws', h2, h3⟩ := gTup_obj h
  refine ⟨_, mg_of B.X B.gl h1, .tup hT ?_⟩
  rw [hk] at h2
  have : ws = ws' := by cases h2; rfl
  subst this
  exact strsAre_VRs h3
theorem g_fn {x : Str} {a : Nat} (B : Base c g) (h : gFn c.K x a = true) : c.mg x = some (.ref a) ∧ keepIn c.K (.ref a) = true := by
  obtain ⟨h1, h2⟩ := Bool.and_eq_true_iff.mp h
  exact ⟨mg_of B.X B.gl (beq_iff_eq.mp h1), h2⟩
theorem g_bt {x : Str} {v : Value} (B : Base c g) (hb : ∀ x : Str, x ≠ "__name__" → c.mb x = bootBuiltins x) (h : gBt c.K x = true) (hn : (x == ("__name__" : Str)) = false) (hv : bootBuiltins x = some v) : c.mg x = none ∧ c.mb x = some v :=
  ⟨mg_none_of B.X B.gl (beq_iff_eq.mp h), (hb x (by simpa using hn)).trans hv⟩
end

/-! the classes -/
noncomputable def attrChk (K : Frag) : Bool := clsTab.all fun p => p.2.1.all fun k => findIn K (.ref p.1) (nm k) == some none && takerIn K p.1 (nm k) == some none
noncomputable def clsChk (K : Frag) : Bool := clsTab.all fun p => plainGet K p.1 "" && (hasDictIn K p.1 && (plainOver K p.1 && (findIn K (.ref p.1) "__setattr__" == some (some (.builtin "object.__setattr__")) &&
  (makesIn K p.1 && (findIn K (.ref p.1) "__init__" == some (some (.ref p.2.2.2)) && (isFn K (.ref p.2.2.2) && keepIn K (.ref p.1)))))))
noncomputable def methChk (K : Frag) : Bool := clsTab.all fun p => p.2.2.1.all fun q => findIn K (.ref p.1) (nm q.1) == some (some (.ref q.2)) && (isFn K (.ref q.2) && keepIn K (.ref q.2))
theorem gd_of {K : Frag} (h1 : attrChk K = true) (h2 : clsChk K = true) (h3 : methChk K = true) : Gd K := by
  refine ⟨fun C k h => ?_, fun C f h => ?_, fun C k f h => ?_⟩
  · obtain ⟨p, hp, h⟩ := List.any_eq_true.mp h
    obtain ⟨ha, hb⟩ := Bool.and_eq_true_iff.mp h
    have ha := beq_iff_eq.mp ha
    subst ha
    have := List.all_eq_true.mp (List.all_eq_true.mp h1 p hp) k (List.contains_iff_mem.mp hb)
    obtain ⟨g1, g2⟩ := Bool.and_eq_true_iff.mp this
    exact ⟨beq_iff_eq.mp g1, beq_iff_eq.mp g2⟩
  · obtain ⟨q, hq, rfl⟩ := Option.map_eq_some_iff.mp h
    have := List.all_eq_true.mp h2 _ (lookup_mem hq)
    simp only [Bool.and_eq_true] at this
    obtain ⟨a1, a2, a3, a4, a5, a6, a7, a8⟩ := this
    exact ⟨a1, a2, a3, beq_iff_eq.mp a4, a5, beq_iff_eq.mp a6, a7, a8⟩
  · obtain ⟨q, hq, hf⟩ := Option.bind_eq_some_iff.mp h
    have := List.all_eq_true.mp (List.all_eq_true.mp h3 _ (lookup_mem hq)) _ (lookup_mem hf)
    simp only [Bool.and_eq_true] at this
    obtain ⟨a1, a2, a3⟩ := this
    exact ⟨beq_iff_eq.mp a1, a2, a3⟩

noncomputable def fnRows : List (Nat × Stmt × Nat × Nat) := [
  (23, (tops 23), 2, 4),
  (30, (tops 24), 1, 2),
  (37, (tops 25), 1, 4),
  (51, (subs 26 0), 1, 0),
  (58, (subs 26 1), 2, 1),
  (65, (subs 26 2), 2, 6),
  (70, (subs 26 3), 2, 15),
  (77, (subs 26 4), 2, 8),
  (84, (subs 26 5), 2, 10),
  (91, (subs 26 6), 3, 6),
  (105, (tops 27), 1, 5),
  (112, (tops 28), 1, 4),
  (205, (subs 34 0), 4, 0),
  (306, (tops 54), 3, 2),
  (313, (tops 55), 3, 1),
  (320, (tops 56), 2, 0),
  (334, (tops 58), 3, 1),
  (348, (tops 60), 1, 1),
  (355, (tops 61), 3, 1),
  (362, (tops 62), 3, 1),
  (390, (tops 66), 2, 3),
  (397, (tops 67), 2, 4),
  (404, (tops 68), 2, 3),
  (411, (tops 69), 4, 10),
  (418, (tops 70), 3, 2),
  (425, (tops 71), 4, 5),
  (439, (subs 76 0), 7, 0),
  (446, (subs 76 1), 2, 1),
  (467, (subs 77 0), 3, 0),
  (474, (subs 77 1), 3, 8),
  (481, (subs 77 2), 1, 1),
  (488, (subs 77 3), 3, 9),
  (495, (subs 77 4), 3, 7),
  (502, (subs 77 5), 3, 5),
  (509, (subs 77 6), 3, 9),
  (516, (subs 77 7), 3, 3),
  (537, (tops 78), 1, 2),
  (544, (tops 79), 4, 9),
  (551, (tops 80), 4, 2),
  (565, (subs 82 0), 4, 0),
  (579, (subs 82 2), 3, 0),
  (586, (subs 82 3), 1, 1),
  (600, (tops 84), 2, 1),
  (607, (tops 85), 2, 2),
  (614, (tops 86), 1, 3),
  (619, (tops 87), 2, 10),
  (624, (tops 88), 2, 6),
  (629, (tops 89), 1, 14)]
noncomputable def FP (c : Cx) (a : Nat) (e : FE) : Prop := ∃ F, FnOk c a F e.n e.P ∧ F.scope.names.length = e.n + e.k
theorem fa_cons {P : Nat → FE → Prop} {a : Nat} {e : FE} {l : List (Nat × FE)} (h : P a e) (t : ∀ p ∈ l, P p.1 p.2) : ∀ p ∈ (a, e) :: l, P p.1 p.2 := fun p hp => by
  rcases List.mem_cons.mp hp with rfl | hp
  · exact h
  · exact t p hp
set_option maxHeartbeats 4000000 in
theorem ft_ok {c : Cx} (hG : Gl c) (h1 : fnsChk c.K fnRows = true) (h2 : fnsAre c.K fnRows) : ∀ a e, FT a = some e → FP c a e := by
  suffices h : ∀ p ∈ ftab, FP c p.1 p.2 from fun a e he => h (a, e) (lookup_mem he)
  refine fa_cons (P := FP c) (@fn_ok c fnRows h1 h2 23 (tops 23) 2 4 P_row_of (List.mem_of_getElem? (i := 0) rfl) (@S_row_of c hG)) ?_
  refine fa_cons (P := FP c) (@fn_ok c fnRows h1 h2 30 (tops 24) 1 2 P_is_plain_text (List.mem_of_getElem? (i := 1) rfl) (@S_is_plain_text c hG)) ?_
  refine fa_cons (P := FP c) (@fn_ok c fnRows h1 h2 37 (tops 25) 1 4 P_with_texts_joined (List.mem_of_getElem? (i := 2) rfl) (@S_with_texts_joined c hG)) ?_
  refine fa_cons (P := FP c) (@fn_ok c fnRows h1 h2 51 (subs 26 0) 1 0 P_PatternCode_init (List.mem_of_getElem? (i := 3) rfl) (@S_PatternCode_init c hG)) ?_
  refine fa_cons (P := FP c) (@fn_ok c fnRows h1 h2 58 (subs 26 1) 2 1 P_PatternCode_emit (List.mem_of_getElem? (i := 4) rfl) (@S_PatternCode_emit c hG)) ?_
  refine fa_cons (P := FP c) (@fn_ok c fnRows h1 h2 65 (subs 26 2) 2 6 P_PatternCode_put (List.mem_of_getElem? (i := 5) rfl) (@S_PatternCode_put c hG)) ?_
  refine fa_cons (P := FP c) (@fn_ok c fnRows h1 h2 70 (subs 26 3) 2 15 P_PatternCode_begun (List.mem_of_getElem? (i := 6) rfl) (@S_PatternCode_begun c hG)) ?_
  refine fa_cons (P := FP c) (@fn_ok c fnRows h1 h2 77 (subs 26 4) 2 8 P_PatternCode_choice (List.mem_of_getElem? (i := 7) rfl) (@S_PatternCode_choice c hG)) ?_
  refine fa_cons (P := FP c) (@fn_ok c fnRows h1 h2 84 (subs 26 5) 2 10 P_PatternCode_repeat (List.mem_of_getElem? (i := 8) rfl) (@S_PatternCode_repeat c hG)) ?_
  refine fa_cons (P := FP c) (@fn_ok c fnRows h1 h2 91 (subs 26 6) 3 6 P_PatternCode_bound (List.mem_of_getElem? (i := 9) rfl) (@S_PatternCode_bound c hG)) ?_
  refine fa_cons (P := FP c) (@fn_ok c fnRows h1 h2 105 (tops 27) 1 5 P_straightened (List.mem_of_getElem? (i := 10) rfl) (@S_straightened c hG)) ?_
  refine fa_cons (P := FP c) (@fn_ok c fnRows h1 h2 112 (tops 28) 1 4 P_compile_pattern (List.mem_of_getElem? (i := 11) rfl) (@S_compile_pattern c hG)) ?_
  refine fa_cons (P := FP c) (@fn_ok c fnRows h1 h2 205 (subs 34 0) 4 0 P_NameRef_init (List.mem_of_getElem? (i := 12) rfl) (@S_NameRef_init c hG)) ?_
  refine fa_cons (P := FP c) (@fn_ok c fnRows h1 h2 306 (tops 54) 3 2 P_chars_end (List.mem_of_getElem? (i := 13) rfl) (@S_chars_end c hG)) ?_
  refine fa_cons (P := FP c) (@fn_ok c fnRows h1 h2 313 (tops 55) 3 1 P_len_end (List.mem_of_getElem? (i := 14) rfl) (@S_len_end c hG)) ?_
  refine fa_cons (P := FP c) (@fn_ok c fnRows h1 h2 320 (tops 56) 2 0 P_pos_end (List.mem_of_getElem? (i := 15) rfl) (@S_pos_end c hG)) ?_
  refine fa_cons (P := FP c) (@fn_ok c fnRows h1 h2 334 (tops 58) 3 1 P_tab_end (List.mem_of_getElem? (i := 16) rfl) (@S_tab_end c hG)) ?_
  refine fa_cons (P := FP c) (@fn_ok c fnRows h1 h2 348 (tops 60) 1 1 P_rem_end (List.mem_of_getElem? (i := 17) rfl) (@S_rem_end c hG)) ?_
  refine fa_cons (P := FP c) (@fn_ok c fnRows h1 h2 355 (tops 61) 3 1 P_any_at (List.mem_of_getElem? (i := 18) rfl) (@S_any_at c hG)) ?_
  refine fa_cons (P := FP c) (@fn_ok c fnRows h1 h2 362 (tops 62) 3 1 P_notany_at (List.mem_of_getElem? (i := 19) rfl) (@S_notany_at c hG)) ?_
  refine fa_cons (P := FP c) (@fn_ok c fnRows h1 h2 390 (tops 66) 2 3 P_arb_ends (List.mem_of_getElem? (i := 20) rfl) (@S_arb_ends c hG)) ?_
  refine fa_cons (P := FP c) (@fn_ok c fnRows h1 h2 397 (tops 67) 2 4 P_bal_end (List.mem_of_getElem? (i := 21) rfl) (@S_bal_end c hG)) ?_
  refine fa_cons (P := FP c) (@fn_ok c fnRows h1 h2 404 (tops 68) 2 3 P_bal_ends (List.mem_of_getElem? (i := 22) rfl) (@S_bal_ends c hG)) ?_
  refine fa_cons (P := FP c) (@fn_ok c fnRows h1 h2 411 (tops 69) 4 10 P_one_end (List.mem_of_getElem? (i := 23) rfl) (@S_one_end c hG)) ?_
  refine fa_cons (P := FP c) (@fn_ok c fnRows h1 h2 418 (tops 70) 3 2 P_plain_end (List.mem_of_getElem? (i := 24) rfl) (@S_plain_end c hG)) ?_
  refine fa_cons (P := FP c) (@fn_ok c fnRows h1 h2 425 (tops 71) 4 5 P_ends_of (List.mem_of_getElem? (i := 25) rfl) (@S_ends_of c hG)) ?_
  refine fa_cons (P := FP c) (@fn_ok c fnRows h1 h2 439 (subs 76 0) 7 0 P_Way_init (List.mem_of_getElem? (i := 26) rfl) (@S_Way_init c hG)) ?_
  refine fa_cons (P := FP c) (@fn_ok c fnRows h1 h2 446 (subs 76 1) 2 1 P_Way_copied (List.mem_of_getElem? (i := 27) rfl) (@S_Way_copied c hG)) ?_
  refine fa_cons (P := FP c) (@fn_ok c fnRows h1 h2 467 (subs 77 0) 3 0 P_Match_init (List.mem_of_getElem? (i := 28) rfl) (@S_Match_init c hG)) ?_
  refine fa_cons (P := FP c) (@fn_ok c fnRows h1 h2 474 (subs 77 1) 3 8 P_Match_run (List.mem_of_getElem? (i := 29) rfl) (@S_Match_run c hG)) ?_
  refine fa_cons (P := FP c) (@fn_ok c fnRows h1 h2 481 (subs 77 2) 1 1 P_Match_way_back (List.mem_of_getElem? (i := 30) rfl) (@S_Match_way_back c hG)) ?_
  refine fa_cons (P := FP c) (@fn_ok c fnRows h1 h2 488 (subs 77 3) 3 9 P_Match_done (List.mem_of_getElem? (i := 31) rfl) (@S_Match_done c hG)) ?_
  refine fa_cons (P := FP c) (@fn_ok c fnRows h1 h2 495 (subs 77 4) 3 7 P_Match_met_once (List.mem_of_getElem? (i := 32) rfl) (@S_Match_met_once c hG)) ?_
  refine fa_cons (P := FP c) (@fn_ok c fnRows h1 h2 502 (subs 77 5) 3 5 P_Match_ended (List.mem_of_getElem? (i := 33) rfl) (@S_Match_ended c hG)) ?_
  refine fa_cons (P := FP c) (@fn_ok c fnRows h1 h2 509 (subs 77 6) 3 9 P_Match_other (List.mem_of_getElem? (i := 34) rfl) (@S_Match_other c hG)) ?_
  refine fa_cons (P := FP c) (@fn_ok c fnRows h1 h2 516 (subs 77 7) 3 3 P_Match_met_often (List.mem_of_getElem? (i := 35) rfl) (@S_Match_met_often c hG)) ?_
  refine fa_cons (P := FP c) (@fn_ok c fnRows h1 h2 537 (tops 78) 1 2 P_named_rows (List.mem_of_getElem? (i := 36) rfl) (@S_named_rows c hG)) ?_
  refine fa_cons (P := FP c) (@fn_ok c fnRows h1 h2 544 (tops 79) 4 9 P_match_orders (List.mem_of_getElem? (i := 37) rfl) (@S_match_orders c hG)) ?_
  refine fa_cons (P := FP c) (@fn_ok c fnRows h1 h2 551 (tops 80) 4 2 P_match_compiled (List.mem_of_getElem? (i := 38) rfl) (@S_match_compiled c hG)) ?_
  refine fa_cons (P := FP c) (@fn_ok c fnRows h1 h2 565 (subs 82 0) 4 0 P_PlainHost_init (List.mem_of_getElem? (i := 39) rfl) (@S_PlainHost_init c hG)) ?_
  refine fa_cons (P := FP c) (@fn_ok c fnRows h1 h2 579 (subs 82 2) 3 0 P_PlainHost_assign (List.mem_of_getElem? (i := 40) rfl) (@S_PlainHost_assign c hG)) ?_
  refine fa_cons (P := FP c) (@fn_ok c fnRows h1 h2 586 (subs 82 3) 1 1 P_PlainHost_step (List.mem_of_getElem? (i := 41) rfl) (@S_PlainHost_step c hG)) ?_
  refine fa_cons (P := FP c) (@fn_ok c fnRows h1 h2 600 (tops 84) 2 1 P_law_pick (List.mem_of_getElem? (i := 42) rfl) (@S_law_pick c hG)) ?_
  refine fa_cons (P := FP c) (@fn_ok c fnRows h1 h2 607 (tops 85) 2 2 P_law_one (List.mem_of_getElem? (i := 43) rfl) (@S_law_one c hG)) ?_
  refine fa_cons (P := FP c) (@fn_ok c fnRows h1 h2 614 (tops 86) 1 3 P_law_part (List.mem_of_getElem? (i := 44) rfl) (@S_law_part c hG)) ?_
  refine fa_cons (P := FP c) (@fn_ok c fnRows h1 h2 619 (tops 87) 2 10 P_law_series (List.mem_of_getElem? (i := 45) rfl) (@S_law_series c hG)) ?_
  refine fa_cons (P := FP c) (@fn_ok c fnRows h1 h2 624 (tops 88) 2 6 P_law_counted (List.mem_of_getElem? (i := 46) rfl) (@S_law_counted c hG)) ?_
  refine fa_cons (P := FP c) (@fn_ok c fnRows h1 h2 629 (tops 89) 1 14 P_law (List.mem_of_getElem? (i := 47) rfl) (@S_law c hG)) ?_
  exact fun _ h => absurd h List.not_mem_nil
noncomputable def glChk (K : Frag) : List Bool := [
  gStr K "ABORT" [97, 98, 111, 114, 116],
  gTup K "ALONE" 16 [[102, 101, 110, 99, 101], [102, 97, 105, 108], [97, 98, 111, 114, 116], [115, 117, 99, 99, 101, 101, 100]],
  gStr K "ASK" [97, 115, 107],
  gStr K "CLOSING" [41],
  gStr K "DONE" [100, 111, 110, 101],
  gStr K "EMIT" [101, 109, 105, 116],
  gStr K "FAIL" [102, 97, 105, 108],
  gInt K "FAILED" 1,
  gStr K "FENCE" [102, 101, 110, 99, 101],
  gStr K "GAIN" [103, 97, 105, 110],
  gStr K "JUMP" [106, 117, 109, 112],
  gStr K "MARK" [109, 97, 114, 107],
  gStr K "MEET" [109, 101, 101, 116],
  gInt K "MET" 0,
  gStr K "NAME" [110, 97, 109, 101],
  gStr K "ONE" [111, 110, 101],
  gStr K "OPEN" [111, 112, 101, 110],
  gStr K "OPENING" [40],
  gInt K "OVER" 2,
  gStr K "PLACE" [112, 108, 97, 99, 101],
  gStr K "PUT" [112, 117, 116],
  gStr K "SET" [115, 101, 116],
  gStr K "SHUT" [115, 104, 117, 116],
  gTup K "SINGLE" 15 [[99, 104, 97, 114, 115], [108, 101, 110], [112, 111, 115], [114, 112, 111, 115], [116, 97, 98], [114, 116, 97, 98], [97, 110, 121], [110, 111, 116, 97, 110, 121], [115, 112, 97, 110], [98, 114, 101, 97, 107], [114, 101, 109]],
  gStr K "SPLIT" [115, 112, 108, 105, 116],
  gStr K "SUCCEED" [115, 117, 99, 99, 101, 101, 100],
  gStr K "WAYS" [119, 97, 121, 115],
  gFn K "Match" 526,
  gFn K "NameRef" 208,
  gFn K "PatternCode" 94,
  gFn K "PlainHost" 589,
  gFn K "Way" 449,
  gFn K "_law_counted" 624,
  gFn K "_law_one" 607,
  gFn K "_law_part" 614,
  gFn K "_law_pick" 600,
  gFn K "_law_series" 619,
  gFn K "any_at" 355,
  gFn K "arb_ends" 390,
  gFn K "bal_end" 397,
  gFn K "bal_ends" 404,
  gFn K "chars_end" 306,
  gFn K "compile_pattern" 112,
  gFn K "ends_of" 425,
  gFn K "is_plain_text" 30,
  gFn K "len_end" 313,
  gFn K "match_compiled" 551,
  gFn K "match_orders" 544,
  gFn K "named_rows" 537,
  gFn K "notany_at" 362,
  gFn K "one_end" 411,
  gFn K "plain_end" 418,
  gFn K "pos_end" 320,
  gFn K "rem_end" 348,
  gFn K "row_of" 23,
  gFn K "straightened" 105,
  gFn K "tab_end" 334,
  gFn K "with_texts_joined" 37,
  gBt K "abs",
  gBt K "int",
  gBt K "isinstance",
  gBt K "len",
  gBt K "list",
  gBt K "range",
  gBt K "str",
  gBt K "sum",
  gBt K "tuple"]
theorem gl_at {K : Frag} (h : (glChk K).all id = true) (i : Nat) {b : Bool} (hi : (glChk K)[i]? = some b) : b = true := List.all_eq_true.mp h b (List.mem_of_getElem? hi)
theorem gl_of {c : Cx} {g : Heap} (B : Base c g) (hb : ∀ x : Str, x ≠ "__name__" → c.mb x = bootBuiltins x) (h : (glChk c.K).all id = true) {ws_ALONE : List Value} (k_ALONE : c.K.lookup 16 = some (tupObj ws_ALONE 0)) (t_ALONE : (16, tupObj ws_ALONE 0) ∈ c.T0) {ws_SINGLE : List Value} (k_SINGLE : c.K.lookup 15 = some (tupObj ws_SINGLE 0)) (t_SINGLE : (15, tupObj ws_SINGLE 0) ∈ c.T0) : Gl c where
  v_ABORT := gs_str B (gl_at h 0 rfl)
  v_ALONE := gs_tup (l := [[102, 101, 110, 99, 101], [102, 97, 105, 108], [97, 98, 111, 114, 116], [115, 117, 99, 99, 101, 101, 100]]) B (gl_at h 1 rfl) k_ALONE t_ALONE
  v_ASK := gs_str B (gl_at h 2 rfl)
  v_CLOSING := gs_str B (gl_at h 3 rfl)
  v_DONE := gs_str B (gl_at h 4 rfl)
  v_EMIT := gs_str B (gl_at h 5 rfl)
  v_FAIL := gs_str B (gl_at h 6 rfl)
  v_FAILED := gs_int B (gl_at h 7 rfl)
  v_FENCE := gs_str B (gl_at h 8 rfl)
  v_GAIN := gs_str B (gl_at h 9 rfl)
  v_JUMP := gs_str B (gl_at h 10 rfl)
  v_MARK := gs_str B (gl_at h 11 rfl)
  v_MEET := gs_str B (gl_at h 12 rfl)
  v_MET := gs_int B (gl_at h 13 rfl)
  v_NAME := gs_str B (gl_at h 14 rfl)
  v_ONE := gs_str B (gl_at h 15 rfl)
  v_OPEN := gs_str B (gl_at h 16 rfl)
  v_OPENING := gs_str B (gl_at h 17 rfl)
  v_OVER := gs_int B (gl_at h 18 rfl)
  v_PLACE := gs_str B (gl_at h 19 rfl)
  v_PUT := gs_str B (gl_at h 20 rfl)
  v_SET := gs_str B (gl_at h 21 rfl)
  v_SHUT := gs_str B (gl_at h 22 rfl)
  v_SINGLE := gs_tup (l := [[99, 104, 97, 114, 115], [108, 101, 110], [112, 111, 115], [114, 112, 111, 115], [116, 97, 98], [114, 116, 97, 98], [97, 110, 121], [110, 111, 116, 97, 110, 121], [115, 112, 97, 110], [98, 114, 101, 97, 107], [114, 101, 109]]) B (gl_at h 23 rfl) k_SINGLE t_SINGLE
  v_SPLIT := gs_str B (gl_at h 24 rfl)
  v_SUCCEED := gs_str B (gl_at h 25 rfl)
  v_WAYS := gs_str B (gl_at h 26 rfl)
  f_Match := g_fn B (gl_at h 27 rfl)
  f_NameRef := g_fn B (gl_at h 28 rfl)
  f_PatternCode := g_fn B (gl_at h 29 rfl)
  f_PlainHost := g_fn B (gl_at h 30 rfl)
  f_Way := g_fn B (gl_at h 31 rfl)
  f__law_counted := g_fn B (gl_at h 32 rfl)
  f__law_one := g_fn B (gl_at h 33 rfl)
  f__law_part := g_fn B (gl_at h 34 rfl)
  f__law_pick := g_fn B (gl_at h 35 rfl)
  f__law_series := g_fn B (gl_at h 36 rfl)
  f_any_at := g_fn B (gl_at h 37 rfl)
  f_arb_ends := g_fn B (gl_at h 38 rfl)
  f_bal_end := g_fn B (gl_at h 39 rfl)
  f_bal_ends := g_fn B (gl_at h 40 rfl)
  f_chars_end := g_fn B (gl_at h 41 rfl)
  f_compile_pattern := g_fn B (gl_at h 42 rfl)
  f_ends_of := g_fn B (gl_at h 43 rfl)
  f_is_plain_text := g_fn B (gl_at h 44 rfl)
  f_len_end := g_fn B (gl_at h 45 rfl)
  f_match_compiled := g_fn B (gl_at h 46 rfl)
  f_match_orders := g_fn B (gl_at h 47 rfl)
  f_named_rows := g_fn B (gl_at h 48 rfl)
  f_notany_at := g_fn B (gl_at h 49 rfl)
  f_one_end := g_fn B (gl_at h 50 rfl)
  f_plain_end := g_fn B (gl_at h 51 rfl)
  f_pos_end := g_fn B (gl_at h 52 rfl)
  f_rem_end := g_fn B (gl_at h 53 rfl)
  f_row_of := g_fn B (gl_at h 54 rfl)
  f_straightened := g_fn B (gl_at h 55 rfl)
  f_tab_end := g_fn B (gl_at h 56 rfl)
  f_with_texts_joined := g_fn B (gl_at h 57 rfl)
  b_abs := g_bt B hb (gl_at h 58 rfl) (by decide +kernel) (by kernel_rfl)
  b_int := g_bt B hb (gl_at h 59 rfl) (by decide +kernel) (by kernel_rfl)
  b_isinstance := g_bt B hb (gl_at h 60 rfl) (by decide +kernel) (by kernel_rfl)
  b_len := g_bt B hb (gl_at h 61 rfl) (by decide +kernel) (by kernel_rfl)
  b_list := g_bt B hb (gl_at h 62 rfl) (by decide +kernel) (by kernel_rfl)
  b_range := g_bt B hb (gl_at h 63 rfl) (by decide +kernel) (by kernel_rfl)
  b_str := g_bt B hb (gl_at h 64 rfl) (by decide +kernel) (by kernel_rfl)
  b_sum := g_bt B hb (gl_at h 65 rfl) (by decide +kernel) (by kernel_rfl)
  b_tuple := g_bt B hb (gl_at h 66 rfl) (by decide +kernel) (by kernel_rfl)
theorem tup_ALONE {K : Frag} (h : (glChk K).all id = true) : ∃ ws, K.lookup 16 = some (tupObj ws 0) := let ⟨_, ws, h, _⟩ := gTup_obj (l := [[102, 101, 110, 99, 101], [102, 97, 105, 108], [97, 98, 111, 114, 116], [115, 117, 99, 99, 101, 101, 100]]) (gl_at h 1 rfl); ⟨ws, h⟩
theorem tup_SINGLE {K : Frag} (h : (glChk K).all id = true) : ∃ ws, K.lookup 15 = some (tupObj ws 0) := let ⟨_, ws, h, _⟩ := gTup_obj (l := [[99, 104, 97, 114, 115], [108, 101, 110], [112, 111, 115], [114, 112, 111, 115], [116, 97, 98], [114, 116, 97, 98], [97, 110, 121], [110, 111, 116, 97, 110, 121], [115, 112, 97, 110], [98, 114, 101, 97, 107], [114, 101, 109]]) (gl_at h 23 rfl); ⟨ws, h⟩

theorem at_94_0 : attrOk 94 0 = true := rfl
theorem at_208_15 : attrOk 208 15 = true := rfl
theorem at_208_16 : attrOk 208 16 = true := rfl
theorem at_208_17 : attrOk 208 17 = true := rfl
theorem at_449_0 : attrOk 449 0 = true := rfl
theorem at_449_1 : attrOk 449 1 = true := rfl
theorem at_449_2 : attrOk 449 2 = true := rfl
theorem at_449_3 : attrOk 449 3 = true := rfl
theorem at_449_4 : attrOk 449 4 = true := rfl
theorem at_449_5 : attrOk 449 5 = true := rfl
theorem at_526_6 : attrOk 526 6 = true := rfl
theorem at_526_7 : attrOk 526 7 = true := rfl
theorem at_526_8 : attrOk 526 8 = true := rfl
theorem at_589_9 : attrOk 589 9 = true := rfl
theorem at_589_10 : attrOk 589 10 = true := rfl
theorem at_589_11 : attrOk 589 11 = true := rfl
theorem at_589_12 : attrOk 589 12 = true := rfl
theorem at_589_13 : attrOk 589 13 = true := rfl
theorem at_589_14 : attrOk 589 14 = true := rfl
theorem me_94_18 : methOf 94 18 = some 58 := rfl
theorem na_94_18 : attrOk 94 18 = false := rfl
theorem me_94_19 : methOf 94 19 = some 65 := rfl
theorem na_94_19 : attrOk 94 19 = false := rfl
theorem me_94_20 : methOf 94 20 = some 70 := rfl
theorem na_94_20 : attrOk 94 20 = false := rfl
theorem me_94_21 : methOf 94 21 = some 77 := rfl
theorem na_94_21 : attrOk 94 21 = false := rfl
theorem me_94_22 : methOf 94 22 = some 84 := rfl
theorem na_94_22 : attrOk 94 22 = false := rfl
theorem me_94_23 : methOf 94 23 = some 91 := rfl
theorem na_94_23 : attrOk 94 23 = false := rfl
theorem me_449_24 : methOf 449 24 = some 446 := rfl
theorem na_449_24 : attrOk 449 24 = false := rfl
theorem me_526_25 : methOf 526 25 = some 474 := rfl
theorem na_526_25 : attrOk 526 25 = false := rfl
theorem me_526_26 : methOf 526 26 = some 481 := rfl
theorem na_526_26 : attrOk 526 26 = false := rfl
theorem me_526_27 : methOf 526 27 = some 488 := rfl
theorem na_526_27 : attrOk 526 27 = false := rfl
theorem me_526_28 : methOf 526 28 = some 495 := rfl
theorem na_526_28 : attrOk 526 28 = false := rfl
theorem me_526_29 : methOf 526 29 = some 502 := rfl
theorem na_526_29 : attrOk 526 29 = false := rfl
theorem me_526_30 : methOf 526 30 = some 509 := rfl
theorem na_526_30 : attrOk 526 30 = false := rfl
theorem me_526_31 : methOf 526 31 = some 516 := rfl
theorem na_526_31 : attrOk 526 31 = false := rfl
theorem me_589_33 : methOf 589 33 = some 586 := rfl
theorem na_589_33 : attrOk 589 33 = false := rfl
theorem me_589_34 : methOf 589 34 = some 579 := rfl
theorem na_589_34 : attrOk 589 34 = false := rfl
theorem nb1 (a : Nat) (l : List Nat) : (([] : List Nat) == a :: l) = false := rfl
theorem nb2 (a : Nat) (l : List Nat) : (a :: l == ([] : List Nat)) = false := rfl
theorem nb3 : (([] : List Nat) == []) = true := rfl
theorem nb4 (a b : Nat) (l m : List Nat) : (a :: l == b :: m) = (a == b && l == m) := rfl
noncomputable abbrev CN (d : Nat) : Cl := callN FT d
theorem callF {a n k d : Nat} {P : ST} {args : List V} {H : Hp} {Q : QV} (h0 : iniOf a = none) (h : FT a = some ⟨n, k, P⟩) (hl : args.length = n) (q : P (CN d) (args ++ List.replicate k .un) H fun fl _ H => Q (retV fl) H) : CN (d + 1) a args H Q := by
  show callN FT (d + 1) a args H Q
  unfold callN
  rw [h0]
  show fnAt FT _ a args H Q
  unfold fnAt
  rw [h]
  exact ⟨hl, q⟩
theorem callI {a fI n k d : Nat} {P : ST} {args : List V} {H : Hp} {Q : QV} (h0 : iniOf a = some fI) (h : FT fI = some ⟨n, k, P⟩) (hl : args.length + 1 = n)
    (q : ∀ x, H x = none → P (CN d) (.ref x :: args ++ List.replicate k .un) (H.set x (.ins a [])) fun fl _ H' => retV fl = .none ∧ Q (.ref x) H') : CN (d + 1) a args H Q := by
  show callN FT (d + 1) a args H Q
  unfold callN
  rw [h0]
  intro x hx
  unfold fnAt
  rw [h]
  exact ⟨hl, q x hx⟩

theorem optQ_some {α : Type} {Q : α → Hp → Prop} {H : Hp} {v : α} : optQ Q H (some v) = Q v H := rfl
theorem attrI_ins {k C : Nat} {H : Hp} {Q : QV} {fs : List (Nat × V)} : attrI k H Q (some (.ins C fs)) = (match attrOk C k, getF k fs with | true, some v => Q v H | _, _ => False) := rfl
theorem putI_ins {k a C : Nat} {v : V} {H : Hp} {Q : Hp → Prop} {fs : List (Nat × V)} : putI k a v H Q (some (.ins C fs)) = (match attrOk C k, atMost fs 100 with | true, true => Q (H.set a (.ins C (putF k v fs))) | _, _ => False) := rfl
theorem methI_ins {k C : Nat} {R : Nat → Prop} {fs : List (Nat × V)} : methI k R (some (.ins C fs)) = (match attrOk C k, getF k fs, methOf C k with | false, none, some f => R f | _, _, _ => False) := rfl
theorem isLstI_lst {A : Prop} {vs : List V} : isLstI A (some (.lst vs)) = A := rfl
theorem onLstI_lst {a : Nat} {R : Nat → List V → Prop} {vs : List V} : onLstI a R (some (.lst vs)) = (vs.length ≤ 100000 ∧ R a vs) := rfl
theorem lenI_lst {vs : List V} : lenI (some (.lst vs)) = some vs.length := rfl
section
variable {C : Cl} {ρ : List V} {H : Hp} {Q : QS} {a b r : ST} {i : Nat} {k l : List Nat}
theorem ifeq_no (hρ : ρ[i]? = some (.str k)) (e : (k == l) = false) (q : sCons b r C ρ H Q) : sCons (sIf (tCmp bEq (pLoc i) (pVal (V.str l))) a b) r C ρ H Q := by
  simp only [sCons, sIf, tCmp, pLoc, pVal, hρ, bEq, e, cmpK, cmpV, optQ_some, ifK]
  exact q
theorem ifeq_nil (hρ : ρ[i]? = some (.str k)) (e : (k == l) = false) (q : r C ρ H Q) : sCons (sIf (tCmp bEq (pLoc i) (pVal (V.str l))) a sNil) r C ρ H Q := ifeq_no hρ e q
theorem ifeq_yes (hρ : ρ[i]? = some (.str k)) (e : (k == l) = true) (q : sCons a r C ρ H Q) : sCons (sIf (tCmp bEq (pLoc i) (pVal (V.str l))) a b) r C ρ H Q := by
  simp only [sCons, sIf, tCmp, pLoc, pVal, hρ, bEq, e, cmpK, cmpV, optQ_some, ifK]
  exact q
end

noncomputable def wst (t : pTest) (b : ST) (C : Cl) (P : List V → Hp → Prop) (Q : QS) (ρ : List V) (H : Hp) : Prop := t C ρ H fun x H => match x with
  | true => b C ρ H fun fl ρ H => (match fl with | .next => P ρ H | .cont => P ρ H | .ret v => Q (.ret v) ρ H)
  | false => Q .next ρ H
theorem w_while {t : pTest} {b : ST} {C : Cl} {ρ : List V} {H : Hp} {Q : QS} (h : ∀ P, (∀ ρ H, wst t b C P Q ρ H → P ρ H) → P ρ H) : sWhile t b C ρ H Q := h
theorem w_ret {p : PT} {a r : ST} {C : Cl} {ρ : List V} {H : Hp} {Q : QS} (q : p C ρ H fun v H => Q (.ret v) ρ H) : sCons (sCons (sRet p) a) r C ρ H Q := q
theorem w_seq (a b : ST) (C : Cl) (ρ : List V) (H : Hp) (Q : QS) : sCons a b C ρ H Q = a C ρ H fun fl ρ H => match fl with | .next => b C ρ H Q | .cont => Q .cont ρ H | .ret v => Q (.ret v) ρ H := rfl
theorem forL_cons {a : Nat} {all : List V} {i : Nat} {b : ST} {v : V} {r : List V} {C : Cl} {ρ : List V} {H : Hp} {Q : QS} (h : H a = some (.lst all))
    (q : ∀ K : QS, (∀ ρ H, K .next ρ H = forL a all i b r C ρ H Q) → (∀ ρ H, K .cont ρ H = forL a all i b r C ρ H Q) → (∀ v ρ H, K (.ret v) ρ H = Q (.ret v) ρ H) → b C (ρ.set i v) H K) : forL a all i b (v :: r) C ρ H Q :=
  ⟨h, q _ (fun _ _ => rfl) (fun _ _ => rfl) (fun _ _ _ => rfl)⟩
theorem forR_cons {i : Nat} {b : ST} {n : Nat} {k : Int} {C : Cl} {ρ : List V} {H : Hp} {Q : QS}
    (q : ∀ K : QS, (∀ ρ H, K .next ρ H = forR i b n (k + 1) C ρ H Q) → (∀ ρ H, K .cont ρ H = forR i b n (k + 1) C ρ H Q) → (∀ v ρ H, K (.ret v) ρ H = Q (.ret v) ρ H) → b C (ρ.set i (.int k)) H K) : forR i b (n + 1) k C ρ H Q :=
  q _ (fun _ _ => rfl) (fun _ _ => rfl) (fun _ _ _ => rfl)
theorem Hp.set_set (H : Hp) (a : Nat) (o o' : MO) : (H.set a o).set a o' = H.set a o' := by
  funext b; unfold Hp.set; by_cases h : b = a <;> simp [h]
/-! the single parts -/
inductive Sg where
  | chars (l : List Nat) | len (n : Nat) | any (l : List Nat) | notany (l : List Nat) | pos (n : Nat) | tab (n : Nat)
noncomputable def Sg.kind : Sg → List Nat
  | .chars _ => [99, 104, 97, 114, 115]
  | .len _ => [108, 101, 110]
  | .any _ => [97, 110, 121]
  | .notany _ => [110, 111, 116, 97, 110, 121]
  | .pos _ => [112, 111, 115]
  | .tab _ => [116, 97, 98]
noncomputable def Sg.told : Sg → V
  | .chars l => .str l
  | .len n => .int n
  | .any l => .str l
  | .notany l => .str l
  | .pos n => .int n
  | .tab n => .int n
noncomputable def Sg.fin (s : List Nat) (i : Nat) : Sg → Option Nat
  | .chars l => if (s.drop i).take l.length = l then some (i + l.length) else none
  | .len n => if i + n ≤ s.length then some (i + n) else none
  | .any l => if i < s.length ∧ s.getD i 0 ∈ l then some (i + 1) else none
  | .notany l => if i < s.length ∧ s.getD i 0 ∉ l then some (i + 1) else none
  | .pos n => if i = n then some i else none
  | .tab n => if i ≤ n ∧ n ≤ s.length then some n else none
noncomputable def Sg.ok : Sg → Prop
  | .chars l => l.length ≤ 1000
  | _ => True
noncomputable def optV : Option Nat → V
  | some n => .int (n : Nat)
  | none => .none
theorem lq_told {g : Sg} {Q : V → Prop} : pLoc.match_1 (fun _ => Prop) (some g.told) (fun _ => False) (fun v => Q v) (fun _ => False) = Q g.told := by induction g using Sg.casesOn <;> rfl
theorem isi_told {g : Sg} : bIsiTup g.told = some false := by induction g using Sg.casesOn <;> rfl
theorem nn (a : Nat) : (0 : Int) ≤ (a : Int) := by omega

section
variable {d : Nat} {s : List Nat} {i : Nat} {H : Hp} {Q : QV}
theorem c_chars_end {t : List Nat} (hs : s.length ≤ 1000) (ht : t.length ≤ 1000) (q : Q (optV ((Sg.chars t).fin s i)) H) : CN (d + 1) 306 [.str s, .int i, .str t] H Q := by
  refine callF (P := P_chars_end) rfl rfl rfl ?_
  simp only [P_chars_end, sCons, sRet, sAsg, pVal, pLoc, pIf, pOp2, pNil, pCons, pSl, slQ, pBlt, bLen, lenV, tCmp, bEq, bAr, partOf, slS, retV, optQ_some, ifPK, op2V, op2K, cmpV, cmpK, consV, consK, slK4, slK3, slK2, slK1, bltK, seqK, retK, asgK, List.getElem?_cons_succ, List.getElem?_cons_zero, List.set_cons_succ, List.set_cons_zero, List.replicate_succ, List.replicate_zero, List.cons_append, List.nil_append, Sg.fin] at q ⊢
  refine ⟨by omega, ?_⟩
  rw [if_pos ⟨nn _, by omega⟩]
  have e : List.drop (i : Int).toNat (List.take ((i : Int) + (t.length : Int)).toNat s) = (s.drop i).take t.length := by
    rw [show ((i : Int) + (t.length : Int)).toNat = i + t.length by omega, Int.toNat_natCast, List.drop_take]
    congr 1; omega
  dsimp only
  rw [e]
  refine ⟨by omega, ?_⟩
  by_cases h : (s.drop i).take t.length = t
  · rw [if_pos h] at q; rw [beq_iff_eq.mpr h]; simpa [optV] using q
  · rw [if_neg h] at q; rw [beq_eq_false_iff_ne.mpr h]; exact q
theorem c_len_end {n : Nat} (hs : s.length ≤ 1000) (q : Q (optV ((Sg.len n).fin s i)) H) : CN (d + 1) 313 [.str s, .int i, .int n] H Q := by
  refine callF (P := P_len_end) rfl rfl rfl ?_
  simp only [P_len_end, sCons, sRet, pVal, pLoc, pIf, pOp2, pNil, pCons, pBlt, bLen, lenV, tCmp, bLt, bAr, retV, optQ_some, ifPK, op2V, op2K, cmpV, cmpK, consV, consK, bltK, seqK, retK, List.getElem?_cons_succ, List.getElem?_cons_zero, List.replicate_succ, List.replicate_zero, List.cons_append, List.nil_append, Sg.fin] at q ⊢
  refine ⟨by omega, ?_⟩
  by_cases h : i + n ≤ s.length
  · rw [if_pos h] at q; rw [decide_eq_true (by omega : (i : Int) + n ≤ s.length)]; simpa [optV] using q
  · rw [if_neg h] at q; rw [decide_eq_false (by omega : ¬ (i : Int) + n ≤ s.length)]; exact q
theorem c_pos_end {n : Nat} (q : Q (optV ((Sg.pos n).fin s i)) H) : CN (d + 1) 320 [.int i, .int n] H Q := by
  refine callF (P := P_pos_end) rfl rfl rfl ?_
  simp only [P_pos_end, sCons, sRet, pVal, pLoc, pIf, tCmp, bEq, retV, optQ_some, ifPK, cmpV, cmpK, seqK, retK, List.getElem?_cons_succ, List.getElem?_cons_zero, List.replicate_zero, List.cons_append, List.nil_append, Sg.fin] at q ⊢
  by_cases h : i = n
  · rw [if_pos h] at q; subst h; simpa [optV] using q
  · rw [if_neg h] at q; rw [beq_eq_false_iff_ne.mpr (by omega : (i : Int) ≠ n)]; exact q
theorem c_tab_end {n : Nat} (hs : s.length ≤ 1000) (q : Q (optV ((Sg.tab n).fin s i)) H) : CN (d + 1) 334 [.str s, .int i, .int n] H Q := by
  refine callF (P := P_tab_end) rfl rfl rfl ?_
  simp only [P_tab_end, sCons, sRet, pVal, pLoc, pIf, pNil, pCons, pBlt, bLen, lenV, tChain, bLt, retV, ifPK, consV, consK, bltK, seqK, retK, List.getElem?_cons_succ, List.getElem?_cons_zero, List.replicate_succ, List.replicate_zero, List.cons_append, List.nil_append, Sg.fin] at q ⊢
  by_cases h : i ≤ n
  · rw [decide_eq_true (by omega : (i : Int) ≤ n)]
    refine ⟨by omega, ?_⟩
    by_cases h' : n ≤ s.length
    · rw [if_pos ⟨h, h'⟩] at q; rw [decide_eq_true (by omega : (n : Int) ≤ s.length)]; simpa [optV] using q
    · rw [if_neg (fun z => h' z.2)] at q; rw [decide_eq_false (by omega : ¬ (n : Int) ≤ s.length)]; exact q
  · rw [if_neg (fun z => h z.1)] at q; rw [decide_eq_false (by omega : ¬ (i : Int) ≤ n)]; exact q
theorem c_any_at {l : List Nat} (hs : s.length ≤ 1000) (q : Q (optV ((Sg.any l).fin s i)) H) : CN (d + 1) 355 [.str s, .int i, .str l] H Q := by
  refine callF (P := P_any_at) rfl rfl rfl ?_
  simp only [P_any_at, sCons, sRet, pVal, pLoc, pIf, pOp2, pNil, pCons, pBlt, bLen, lenV, tCmp, tAnd, bLt, bIdx, retV, optQ_some, ifPK, op2V, op2K, cmpV, cmpK, andK, consV, consK, bltK, seqK, retK, List.getElem?_cons_succ, List.getElem?_cons_zero, List.replicate_succ, List.replicate_zero, List.cons_append, List.nil_append, Sg.fin] at q ⊢
  refine ⟨by omega, ?_⟩
  by_cases h : i < s.length
  · rw [decide_eq_true (by omega : (i : Int) < s.length)]
    have e : s.getD i 0 = s[i] := by simp [List.getD, h]
    rw [if_pos ⟨nn _, by omega⟩]
    simp only [Int.toNat_natCast, List.getElem?_eq_getElem h, Option.map_some, pVal, pLoc, pOp2, bIn, bAr, optQ_some, ifPK, op2V, op2K, cmpV, cmpK, seqK, retK, List.getElem?_cons_succ, List.getElem?_cons_zero, Option.map_some]
    rw [e] at q
    by_cases h' : s[i] ∈ l
    · rw [if_pos ⟨h, h'⟩] at q; rw [decide_eq_true h']; simpa [optV] using q
    · rw [if_neg (fun z => h' z.2)] at q; rw [decide_eq_false h']; exact q
  · rw [if_neg (fun z => h z.1)] at q; rw [decide_eq_false (by omega : ¬ (i : Int) < s.length)]; exact q
theorem c_notany_at {l : List Nat} (hs : s.length ≤ 1000) (q : Q (optV ((Sg.notany l).fin s i)) H) : CN (d + 1) 362 [.str s, .int i, .str l] H Q := by
  refine callF (P := P_notany_at) rfl rfl rfl ?_
  simp only [P_notany_at, sCons, sRet, pVal, pLoc, pIf, pOp2, pNil, pCons, pBlt, bLen, lenV, tCmp, tAnd, bLt, bIdx, retV, optQ_some, ifPK, op2V, op2K, cmpV, cmpK, andK, consV, consK, bltK, seqK, retK, List.getElem?_cons_succ, List.getElem?_cons_zero, List.replicate_succ, List.replicate_zero, List.cons_append, List.nil_append, Sg.fin] at q ⊢
  refine ⟨by omega, ?_⟩
  by_cases h : i < s.length
  · rw [decide_eq_true (by omega : (i : Int) < s.length)]
    have e : s.getD i 0 = s[i] := by simp [List.getD, h]
    rw [if_pos ⟨nn _, by omega⟩]
    simp only [Int.toNat_natCast, List.getElem?_eq_getElem h, Option.map_some, pVal, pLoc, pOp2, bNotIn, bAr, optQ_some, ifPK, op2V, op2K, cmpV, cmpK, seqK, retK, List.getElem?_cons_succ, List.getElem?_cons_zero, Option.map_some]
    rw [e] at q
    by_cases h' : s[i] ∈ l
    · rw [if_neg (fun z => z.2 h')] at q; rw [decide_eq_true h']; exact q
    · rw [if_pos ⟨h, h'⟩] at q; rw [decide_eq_false h']; simpa [optV] using q
  · rw [if_neg (fun z => h z.1)] at q; rw [decide_eq_false (by omega : ¬ (i : Int) < s.length)]; exact q
theorem c_one_end {g : Sg} (hs : s.length ≤ 1000) (hg : g.ok) (q : Q (optV (g.fin s i)) H) : CN (d + 2) 411 [.str g.kind, .str s, .int i, g.told] H Q := by
  refine callF (P := P_one_end) rfl rfl rfl ?_
  unfold P_one_end
  induction g using Sg.casesOn with
  | chars l =>
    refine ifeq_yes rfl rfl ?_
    exact c_chars_end hs hg q
  | len n =>
    refine ifeq_nil rfl rfl (ifeq_yes rfl rfl ?_)
    exact c_len_end hs q
  | any l =>
    refine ifeq_nil rfl rfl (ifeq_nil rfl rfl (ifeq_nil rfl rfl (ifeq_nil rfl rfl (ifeq_nil rfl rfl (ifeq_nil rfl rfl (ifeq_yes rfl rfl ?_))))))
    exact c_any_at hs q
  | notany l =>
    refine ifeq_nil rfl rfl (ifeq_nil rfl rfl (ifeq_nil rfl rfl (ifeq_nil rfl rfl (ifeq_nil rfl rfl (ifeq_nil rfl rfl (ifeq_nil rfl rfl (ifeq_yes rfl rfl ?_)))))))
    exact c_notany_at hs q
  | pos n =>
    refine ifeq_nil rfl rfl (ifeq_nil rfl rfl (ifeq_yes rfl rfl ?_))
    exact c_pos_end q
  | tab n =>
    refine ifeq_nil rfl rfl (ifeq_nil rfl rfl (ifeq_nil rfl rfl (ifeq_nil rfl rfl (ifeq_yes rfl rfl ?_))))
    exact c_tab_end hs q
theorem c_plain_end {g : Sg} (hs : s.length ≤ 1000) (hg : g.ok) (q : Q (optV (g.fin s i)) H) : CN (d + 3) 418 [.tup [.str g.kind, g.told], .str s, .int i] H Q := by
  refine callF (P := P_plain_end) rfl rfl rfl ?_
  have e : (g.kind == [114, 101, 109]) = false := by induction g using Sg.casesOn <;> rfl
  simp only [P_plain_end, sCons, sRet, pVal, pLoc, pIf, pOp2, pNil, pCons, pCall, tCmp, bEq, bIdx, retV, optQ_some, ifPK, op2V, op2K, cmpV, cmpK, consV, consK, callK, List.getElem?_cons_succ, List.getElem?_cons_zero, List.replicate_succ, List.replicate_zero, List.cons_append, List.nil_append, List.length_cons, List.length_nil, Nat.reduceAdd, Nat.reduceLeDiff, Int.reduceLE, Int.le_refl, and_true, reduceIte, Int.toNat_zero, Int.toNat_one]
  simp only [e]
  exact c_one_end hs hg q
end


noncomputable def balS : List Nat → Int → Nat → Option Nat
  | [], _, _ => none
  | c :: r, lev, i =>
    let lev' : Int := if c = 40 then lev + 1 else if c = 41 then lev - 1 else lev
    if lev' < 0 then none else if lev' = 0 then some (i + 1) else balS r lev' (i + 1)
noncomputable def balE (s : List Nat) (i : Nat) : Option Nat := balS (s.drop i) 0 i
theorem balS_gt : ∀ {r : List Nat} {lev : Int} {i e : Nat}, balS r lev i = some e → i < e ∧ e ≤ i + r.length
  | [], _, _, _, h => by simp [balS] at h
  | c :: r, lev, i, e, h => by
    unfold balS at h
    dsimp only at h
    generalize (if c = 40 then lev + 1 else if c = 41 then lev - 1 else lev : Int) = lv at h
    split at h
    · cases h
    split at h
    · obtain rfl := Option.some.inj h; simp
    · have := balS_gt h
      simp only [List.length_cons]; omega
theorem balE_gt {s : List Nat} {i e : Nat} (h : balE s i = some e) : i < e ∧ e ≤ max i s.length := by
  have := balS_gt h
  rw [List.length_drop] at this
  omega
/-- all the balanced ends, one behind the other -/
noncomputable def balEs (s : List Nat) : Nat → Nat → List Nat
  | 0, _ => []
  | n + 1, i => match balE s i with
    | some e => e :: balEs s n e
    | none => []
noncomputable def intsV (l : List Nat) : List V := l.map fun n => V.int (n : Nat)

section
variable {d : Nat} {s : List Nat} {i : Nat} {H : Hp} {Q : QV}
theorem c_bal_end (hs : s.length ≤ 1000) (hi : i ≤ s.length) (q : Q (optV (balE s i)) H) : CN (d + 1) 397 [.str s, .int i] H Q := by
  refine callF (P := P_bal_end) rfl rfl rfl ?_
  simp only [P_bal_end, sCons, sAsg, pVal, retV, seqK, asgK, List.set_cons_succ, List.set_cons_zero, List.replicate_succ, List.replicate_zero, List.cons_append, List.nil_append]
  refine w_while fun P hP => ?_
  have key : ∀ (n i : Nat) (lev : Int), s.length - i = n → i ≤ s.length → Q (optV (balS (s.drop i) lev i)) H → P [V.str s, V.int i, V.int lev, .un, .un, .un] H := by
    intro n
    induction n with
    | zero =>
      intro i lev hn hi q
      refine hP _ _ ?_
      simp only [wst, T_bal_end_1, B_bal_end_2, sCons, sRet, sIf, pVal, pLoc, pOp2, pNil, pCons, pBlt, bLen, lenV, tCmp, bLt, bIdx, optQ_some, op2V, op2K, cmpV, cmpK, consV, consK, bltK, seqK, retK, List.getElem?_cons_succ, List.getElem?_cons_zero]
      refine ⟨by omega, ?_⟩
      rw [decide_eq_false (by omega : ¬ (i : Int) < s.length)]
      rw [show s.drop i = [] from List.drop_eq_nil_of_le (by omega)] at q
      exact q
    | succ n ih =>
      intro i lev hn hi q
      have h : i < s.length := by omega
      refine hP _ _ ?_
      simp only [wst, T_bal_end_1, B_bal_end_2, sCons, sRet, sIf, pVal, pLoc, pOp2, pNil, pCons, pBlt, bLen, lenV, tCmp, bLt, bIdx, optQ_some, op2V, op2K, cmpV, cmpK, consV, consK, bltK, seqK, retK, List.getElem?_cons_succ, List.getElem?_cons_zero]
      refine ⟨by omega, ?_⟩
      rw [decide_eq_true (by omega : (i : Int) < s.length)]
      rw [if_pos ⟨nn _, by omega⟩]
      rw [List.drop_eq_getElem_cons h] at q
      simp only [Int.toNat_natCast, List.getElem?_eq_getElem h, Option.map_some, sCons, sNil, sRet, sIf, sAug, pVal, pLoc, pOp2, tCmp, bLt, bEq, bIdx, augQ, optQ_some, op2V, op2K, cmpV, cmpK, seqK, retK, ifK, augK3, augK2, augK, List.getElem?_cons_succ, List.getElem?_cons_zero, List.set_cons_succ, List.set_cons_zero, nb3, nb4, Bool.and_true, Option.map_some]
      unfold balS at q
      dsimp only at q
      have step : ∀ lv : Int, (Q (optV (if lv < 0 then none else if lv = 0 then some (i + 1) else balS (s.drop (i + 1)) lv (i + 1))) H) →
          (match decide (lv < 0) with
            | true => Q V.none H
            | false => match lv == 0 with
              | true => Q (V.int ((i : Int) + 1)) H
              | false => P [V.str s, V.int ((i : Int) + 1), V.int lv, .un, .un, .un] H) := by
        intro lv q
        by_cases h1 : lv < 0
        · rw [if_pos h1] at q; rw [decide_eq_true h1]; exact q
        · rw [if_neg h1] at q; rw [decide_eq_false h1]
          by_cases h2 : lv = 0
          · rw [if_pos h2] at q; rw [beq_iff_eq.mpr h2]; simpa [optV] using q
          · rw [if_neg h2] at q; rw [beq_eq_false_iff_ne.mpr h2]
            exact ih (i + 1) lv (by omega) (by omega) q
      by_cases h1 : s[i] = 40
      · rw [if_pos h1] at q
        rw [beq_iff_eq.mpr h1]
        exact step _ q
      · rw [if_neg h1] at q
        rw [beq_eq_false_iff_ne.mpr h1]
        dsimp only
        rw [if_pos ⟨nn _, by omega⟩]
        simp only [sCons, sNil, sRet, sIf, sAug, pVal, pLoc, tCmp, bLt, bEq, augQ, optQ_some, cmpV, cmpK, seqK, retK, ifK, augK3, augK2, augK, List.getElem?_cons_succ, List.getElem?_cons_zero, List.set_cons_succ, List.set_cons_zero, nb3, nb4, Bool.and_true]
        by_cases h2 : s[i] = 41
        · rw [if_pos h2] at q
          rw [beq_iff_eq.mpr h2]
          exact step _ q
        · rw [if_neg h2] at q
          rw [beq_eq_false_iff_ne.mpr h2]
          exact step _ q
  exact key _ i 0 rfl hi q

theorem c_arb_ends (hs : s.length ≤ 1000) (hi : i ≤ s.length) (q : ∀ a, H a = none → Q (.ref a) (H.set a (.lst (intsV ((List.range (s.length + 1 - i)).map (i + ·)))))) : CN (d + 1) 390 [.str s, .int i] H Q := by
  refine callF (P := P_arb_ends) rfl rfl rfl ?_
  simp only [P_arb_ends, sCons, sRet, pVal, pLoc, pOp2, pNil, pCons, pBlt, bLen, lenV, bAr, retV, optQ_some, op2V, op2K, consV, consK, bltK, seqK, retK, List.getElem?_cons_succ, List.getElem?_cons_zero, List.replicate_succ, List.replicate_zero, List.cons_append, List.nil_append, pRangeL, rangeOk]
  refine ⟨by omega, by simp; omega, fun n hn => ?_⟩
  have e : rangeV (i : Int) ((s.length : Int) + 1) = intsV ((List.range (s.length + 1 - i)).map (i + ·)) := by
    unfold rangeV intsV
    rw [List.map_map, show ((s.length : Int) + 1 - i).toNat = s.length + 1 - i by omega]
    apply List.map_congr_left
    intro k _
    simp
  rw [e]
  exact q n hn
theorem c_bal_ends (hs : s.length ≤ 1000) (hi : i ≤ s.length) (q : ∀ a, H a = none → Q (.ref a) (H.set a (.lst (intsV (balEs s (s.length - i) i))))) : CN (d + 2) 404 [.str s, .int i] H Q := by
  refine callF (P := P_bal_ends) rfl rfl rfl ?_
  simp only [P_bal_ends, sCons, sSwap, pLoc, pTup, pList, pNil, pCons, pCall, retV, atMost, consV, consK, listK, callK, List.getElem?_cons_succ, List.getElem?_cons_zero, List.replicate_succ, List.replicate_zero, List.cons_append, List.nil_append]
  refine fun a ha => ?_
  refine c_bal_end hs hi ?_
  refine w_while fun P hP => ?_
  have key : ∀ (n j : Nat) (acc : List Nat), s.length - j ≤ n → j ≤ s.length → acc.length ≤ j → (∀ a, H a = none → Q (.ref a) (H.set a (.lst (intsV (acc ++ balEs s n j))))) →
      P [V.str s, V.int i, V.ref a, optV (balE s j), .un] (H.set a (.lst (intsV acc))) := by
    intro n
    induction n with
    | zero =>
      intro j acc hn hi hacc q
      refine hP _ _ ?_
      have e : balE s j = none := by
        cases h : balE s j with
        | none => rfl
        | some e => have := balE_gt h; omega
      simp only [wst, T_bal_ends_1, B_bal_ends_2, e, optV, sCons, sRet, sExp, sAsg, pVal, pLoc, pNil, pCons, pCall, pLm, isLst, onLst, bAppend, tCmp, bIs, optQ_some, cmpV, cmpK, consV, consK, callK, lmK2, lmK, seqK, retK, expK, List.getElem?_cons_succ, List.getElem?_cons_zero]
      simpa [balEs] using q a ha
    | succ n ih =>
      intro j acc hn hi hacc q
      refine hP _ _ ?_
      cases h : balE s j with
      | none =>
        simp only [wst, T_bal_ends_1, B_bal_ends_2, optV, sCons, sRet, sExp, sAsg, pVal, pLoc, pNil, pCons, pCall, pLm, isLst, onLst, bAppend, tCmp, bIs, optQ_some, cmpV, cmpK, consV, consK, callK, lmK2, lmK, seqK, retK, expK, List.getElem?_cons_succ, List.getElem?_cons_zero]
        simpa [balEs, h] using q a ha
      | some e =>
        have := balE_gt h
        simp only [wst, T_bal_ends_1, B_bal_ends_2, optV, sCons, sRet, sExp, sAsg, pVal, pLoc, pNil, pCons, pCall, pLm, isLst, onLst, bAppend, tCmp, bIs, optQ_some, cmpV, cmpK, consV, consK, callK, isLstI_lst, lmK2, lmK, onLstI_lst, seqK, retK, expK, List.getElem?_cons_succ, List.getElem?_cons_zero, Bool.not_false, Hp.set_self, Hp.set_set]
        refine ⟨by simp [intsV]; omega, c_bal_end hs (by omega) ?_⟩
        have z := ih e (acc ++ [e]) (by omega) (by omega) (by simp; omega) (by simpa [balEs, h, intsV] using q)
        simpa [intsV, asgK, seqK, sNil] using z
  exact key _ i [] (Nat.le_refl _) hi (Nat.zero_le _) (by simpa using q)

/-- arb, bal -/
noncomputable def waysK : Bool → List Nat
  | true => [97, 114, 98]
  | false => [98, 97, 108]
noncomputable def waysE (s : List Nat) (i : Nat) : Bool → List Nat
  | true => (List.range (s.length + 1 - i)).map (i + ·)
  | false => balEs s (s.length - i) i
theorem c_ends_of {w : Bool} (hs : s.length ≤ 1000) (hi : i ≤ s.length) (q : ∀ a, H a = none → Q (.ref a) (H.set a (.lst (intsV (waysE s i w))))) : CN (d + 3) 425 [.str (waysK w), .str s, .int i, .none] H Q := by
  refine callF (P := P_ends_of) rfl rfl rfl ?_
  unfold P_ends_of
  induction w using Bool.casesOn with
  | true =>
    refine ifeq_yes rfl rfl ?_
    exact c_arb_ends hs hi q
  | false =>
    refine ifeq_nil rfl rfl (ifeq_yes rfl rfl ?_)
    exact c_bal_ends hs hi q
end


/-! orders -/
inductive Od where
  | one (g : Sg) | ways (w : Bool) | split (n : Nat) | jump (n : Nat) | mark | set | gain | fail | done
noncomputable def Od.v (r : Nat) : Od → V
  | .one g => .tup [.str [111, 110, 101], .str g.kind, g.told]
  | .ways w => .tup [.str [119, 97, 121, 115], .str (waysK w)]
  | .split n => .tup [.str [115, 112, 108, 105, 116], .int n]
  | .jump n => .tup [.str [106, 117, 109, 112], .int n]
  | .mark => .tup [.str [109, 97, 114, 107]]
  | .set => .tup [.str [115, 101, 116], .ref r]
  | .gain => .tup [.str [103, 97, 105, 110]]
  | .fail => .tup [.str [102, 97, 105, 108]]
  | .done => .tup [.str [100, 111, 110, 101]]
structure Cfg where
  pc : Nat
  i : Nat
  m : List Nat
noncomputable def markV : List Nat → V
  | [] => .none
  | b :: m => .tup [markV m, .int b]
theorem lq_mark {g : List Nat} {Q : V → Prop} : pLoc.match_1 (fun _ => Prop) (some (markV g)) (fun _ => False) (fun v => Q v) (fun _ => False) = Q (markV g) := by induction g using List.casesOn <;> rfl
theorem lq_od {g : Od} {r : Nat} {Q : V → Prop} : pLoc.match_1 (fun _ => Prop) (some (g.v r)) (fun _ => False) (fun v => Q v) (fun _ => False) = Q (g.v r) := by induction g using Od.casesOn <;> rfl
/-- what is to be explored behind an order, in this row -/
noncomputable def stepN (s : List Nat) (c : Cfg) : Od → List Cfg
  | .one g => match g.fin s c.i with | some e => [⟨c.pc + 1, e, c.m⟩] | none => []
  | .ways w => (waysE s c.i w).map fun e => ⟨c.pc + 1, e, c.m⟩
  | .split n => [⟨c.pc + 1, c.i, c.m⟩, ⟨n, c.i, c.m⟩]
  | .jump n => [⟨n, c.i, c.m⟩]
  | .mark => [⟨c.pc + 1, c.i, c.i :: c.m⟩]
  | .set => [⟨c.pc + 1, c.i, c.m.tail⟩]
  | .gain => if c.m.headD 0 < c.i then [⟨c.pc + 1, c.i, c.m.tail⟩] else []
  | .fail => []
  | .done => []
noncomputable def stepL (s : List Nat) (c : Cfg) : Od → List (List Nat)
  | .set => [(s.take c.i).drop (c.m.headD 0)]
  | _ => []
noncomputable def stepOk (c : Cfg) : Od → Prop
  | .one g => g.ok
  | .set => c.m ≠ []
  | .gain => c.m ≠ []
  | .done => False
  | _ => True
/-- a stack of ways is run to its end: in so many steps, with this log -/
inductive Ex (os : List Od) (s : List Nat) : List Cfg → Nat → List (List Nat) → Prop
  | nil : Ex os s [] 0 []
  | cons {c : Cfg} {rest : List Cfg} {od : Od} {k : Nat} {L : List (List Nat)} : os[c.pc]? = some od → c.i ≤ s.length → stepOk c od → Ex os s (stepN s c od ++ rest) k L → Ex os s (c :: rest) (k + 1) (stepL s c od ++ L)
theorem Ex.len {os : List Od} {s : List Nat} {st : List Cfg} {k : Nat} {L : List (List Nat)} (h : Ex os s st k L) : st.length ≤ k := by
  induction h with
  | nil => exact Nat.le_refl _
  | cons _ _ _ _ ih => simp only [List.length_append, List.length_cons] at ih ⊢; omega
theorem Ex.append {os : List Od} {s : List Nat} {st st' : List Cfg} {k k' : Nat} {L L' : List (List Nat)} (h : Ex os s st k L) (h' : Ex os s st' k' L') : Ex os s (st ++ st') (k + k') (L ++ L') := by
  induction h with
  | nil => simpa using h'
  | cons a b c _ ih =>
    rw [List.append_assoc] at ih
    rw [List.append_assoc, Nat.add_right_comm]
    exact .cons a b c ih

/-! the machine's heap -/
structure MK where
  s : List Nat
  M : Nat
  h : Nat
  hi : Nat
  dv : Nat
  rf : Nat
  lg : Nat
  o : Nat
  r : Nat
  os : List Od
  H0 : Hp
structure KOk (K : MK) : Prop where
  s : K.s.length ≤ 1000
  os : K.os.length ≤ 1000
  h1 : K.hi ≠ K.lg
  h2 : K.hi ≠ K.o
  h3 : K.hi ≠ K.rf
  h4 : K.lg ≠ K.o
  h5 : K.lg ≠ K.rf
  hi0 : K.H0 K.hi = none
  M0 : K.H0 K.M = none
noncomputable def wayO (o : Nat) (c : Cfg) : MO := .ins 449 [(0, .ref o), (1, .int c.pc), (2, .int c.i), (3, .none), (4, markV c.m), (5, .none)]
noncomputable def hostO (dv rf lg st : Nat) : MO := .ins 589 [(9, .ref dv), (10, .int 99999), (11, .ref rf), (12, .int 64), (13, .int st), (14, .ref lg)]
noncomputable def entV (t : List Nat) : V := .tup [.str [86], .str t]
structure MI (K : MK) (st : Nat) (L : List (List Nat)) (hs l : List (Nat × Cfg)) (H : Hp) : Prop where
  M : H K.M = some (.ins 526 [(6, .str K.s), (7, .ref K.h), (8, .ref K.hi)])
  h : H K.h = some (hostO K.dv K.rf K.lg st)
  dv : H K.dv = some (.dic L.length)
  rf : H K.rf = some (.lst [])
  lg : H K.lg = some (.lst (L.map entV))
  o : H K.o = some (.lst (K.os.map (Od.v K.r)))
  r : ∃ x y, H K.r = some (.ins 208 [(15, x), (16, y), (17, .str [86])])
  hi : H K.hi = some (.lst (hs.map fun p => .ref p.1))
  ws : ∀ p ∈ l, H p.1 = some (wayO K.o p.2) ∧ K.H0 p.1 = none
  nd : (l.map (·.1)).Nodup
  fr : ∀ b, K.H0 b ≠ none → b ≠ K.h → b ≠ K.dv → b ≠ K.lg → H b = K.H0 b

section
variable {K : MK} {st : Nat} {L : List (List Nat)} {hs l : List (Nat × Cfg)} {H : Hp}
/-- a way's own object is turned -/
theorem MI.turn {w : Nat} {c c' : Cfg} (I : MI K st L hs ((w, c) :: l) H) : MI K st L hs ((w, c') :: l) (H.set w (wayO K.o c')) := by
  obtain ⟨hw, hw0⟩ := I.ws _ (.head _)
  have nd := I.nd
  simp only [List.map_cons, List.nodup_cons] at nd
  have ne : ∀ {b : Nat} {x : MO}, H b = some x → (∀ fs, x ≠ .ins 449 fs) → b ≠ w := fun h1 h2 e => by
    rw [e] at h1; dsimp only at hw; rw [h1] at hw; obtain rfl := Option.some.inj hw; exact h2 _ rfl
  refine ⟨?_, ?_, ?_, ?_, ?_, ?_, ?_, ?_, ?_, ?_, ?_⟩
  · rw [Hp.set_ne _ _ (ne I.M nofun)]; exact I.M
  · rw [Hp.set_ne _ _ (ne I.h nofun)]; exact I.h
  · rw [Hp.set_ne _ _ (ne I.dv nofun)]; exact I.dv
  · rw [Hp.set_ne _ _ (ne I.rf nofun)]; exact I.rf
  · rw [Hp.set_ne _ _ (ne I.lg nofun)]; exact I.lg
  · rw [Hp.set_ne _ _ (ne I.o nofun)]; exact I.o
  · obtain ⟨x, y, h1⟩ := I.r; exact ⟨x, y, by rw [Hp.set_ne _ _ (ne h1 nofun)]; exact h1⟩
  · rw [Hp.set_ne _ _ (ne I.hi nofun)]; exact I.hi
  · intro p hp
    rcases List.mem_cons.mp hp with rfl | hp
    · exact ⟨Hp.set_self _ _ _, hw0⟩
    · have : p.1 ≠ w := fun e => nd.1 (List.mem_map.mpr ⟨p, hp, e⟩)
      rw [Hp.set_ne _ _ this]; exact I.ws _ (.tail _ hp)
  · simpa using nd
  · intro b h1 h2 h3 h4
    have : b ≠ w := fun e => h1 (e ▸ hw0)
    rw [Hp.set_ne _ _ this]; exact I.fr b h1 h2 h3 h4
/-- a new object -/
theorem MI.fresh (I : MI K st L hs l H) {a : Nat} (ha : H a = none) (h0 : ∀ b, K.H0 b ≠ none → H b ≠ none) (x : MO) : MI K st L hs l (H.set a x) := by
  have ne : ∀ {b : Nat} {x : MO}, H b = some x → b ≠ a := fun h1 e => by rw [e, ha] at h1; cases h1
  refine ⟨?_, ?_, ?_, ?_, ?_, ?_, ?_, ?_, ?_, I.nd, ?_⟩
  · rw [Hp.set_ne _ _ (ne I.M)]; exact I.M
  · rw [Hp.set_ne _ _ (ne I.h)]; exact I.h
  · rw [Hp.set_ne _ _ (ne I.dv)]; exact I.dv
  · rw [Hp.set_ne _ _ (ne I.rf)]; exact I.rf
  · rw [Hp.set_ne _ _ (ne I.lg)]; exact I.lg
  · rw [Hp.set_ne _ _ (ne I.o)]; exact I.o
  · obtain ⟨x, y, h1⟩ := I.r; exact ⟨x, y, by rw [Hp.set_ne _ _ (ne h1)]; exact h1⟩
  · rw [Hp.set_ne _ _ (ne I.hi)]; exact I.hi
  · intro p hp
    obtain ⟨h1, h2⟩ := I.ws p hp
    exact ⟨by rw [Hp.set_ne _ _ (ne h1)]; exact h1, h2⟩
  · intro b h1 h2 h3 h4
    have : b ≠ a := fun e => h0 b h1 (e ▸ ha)
    rw [Hp.set_ne _ _ this]; exact I.fr b h1 h2 h3 h4
theorem MI.live (I : MI K st L hs l H) {b : Nat} (h : K.H0 b ≠ none) : H b ≠ none := by
  by_cases h1 : b = K.h
  · rw [h1, I.h]; nofun
  by_cases h2 : b = K.dv
  · rw [h2, I.dv]; nofun
  by_cases h3 : b = K.lg
  · rw [h3, I.lg]; nofun
  rw [I.fr b h h1 h2 h3]; exact h
/-- a new way -/
theorem MI.way (I : MI K st L hs l H) {a : Nat} (ha : H a = none) (c : Cfg) : MI K st L hs ((a, c) :: l) (H.set a (wayO K.o c)) := by
  have J := I.fresh ha (fun _ => I.live) (wayO K.o c)
  refine ⟨J.M, J.h, J.dv, J.rf, J.lg, J.o, J.r, J.hi, fun p hp => ?_, ?_, J.fr⟩
  · rcases List.mem_cons.mp hp with rfl | hp
    · refine ⟨Hp.set_self _ _ _, ?_⟩
      cases h : K.H0 a with
      | none => rfl
      | some o => exact absurd ha (I.live (by rw [h]; nofun))
    · exact J.ws p hp
  · simp only [List.map_cons, List.nodup_cons]
    refine ⟨fun h => ?_, I.nd⟩
    obtain ⟨p, hp, e⟩ := List.mem_map.mp h
    have := (I.ws p hp).1
    rw [e, ha] at this; cases this
theorem MI.sub {l' : List (Nat × Cfg)} (I : MI K st L hs l H) (h : l'.Sublist l) : MI K st L hs l' H :=
  ⟨I.M, I.h, I.dv, I.rf, I.lg, I.o, I.r, I.hi, fun p hp => I.ws p (h.subset hp), I.nd.sublist (h.map _), I.fr⟩
theorem MI.perm {l' : List (Nat × Cfg)} (I : MI K st L hs l H) (h : l'.Perm l) : MI K st L hs l' H :=
  ⟨I.M, I.h, I.dv, I.rf, I.lg, I.o, I.r, I.hi, fun p hp => I.ws p (h.subset hp), (h.map _).nodup_iff.mpr I.nd, I.fr⟩
/-- the history is turned -/
theorem MI.hist (k : KOk K) (I : MI K st L hs l H) (hs' : List (Nat × Cfg)) : MI K st L hs' l (H.set K.hi (.lst (hs'.map fun p => .ref p.1))) := by
  have ne : ∀ {b : Nat} {x : MO}, H b = some x → (∀ fs, x ≠ .lst fs) → b ≠ K.hi := fun h1 h2 e => by
    rw [e, I.hi] at h1; obtain rfl := Option.some.inj h1; exact h2 _ rfl
  refine ⟨?_, ?_, ?_, ?_, ?_, ?_, ?_, Hp.set_self _ _ _, ?_, I.nd, ?_⟩
  · rw [Hp.set_ne _ _ (ne I.M nofun)]; exact I.M
  · rw [Hp.set_ne _ _ (ne I.h nofun)]; exact I.h
  · rw [Hp.set_ne _ _ (ne I.dv nofun)]; exact I.dv
  · rw [Hp.set_ne _ _ k.h3.symm]; exact I.rf
  · rw [Hp.set_ne _ _ k.h1.symm]; exact I.lg
  · rw [Hp.set_ne _ _ k.h2.symm]; exact I.o
  · obtain ⟨x, y, h1⟩ := I.r; exact ⟨x, y, by rw [Hp.set_ne _ _ (ne h1 nofun)]; exact h1⟩
  · intro p hp
    obtain ⟨h1, h2⟩ := I.ws p hp
    exact ⟨by rw [Hp.set_ne _ _ (ne h1 nofun)]; exact h1, h2⟩
  · intro b h1 h2 h3 h4
    have : b ≠ K.hi := fun e => h1 (e ▸ k.hi0)
    rw [Hp.set_ne _ _ this]; exact I.fr b h1 h2 h3 h4
/-- a step is counted -/
theorem MI.tick (I : MI K st L hs l H) : MI K (st + 1) L hs l (H.set K.h (hostO K.dv K.rf K.lg (st + 1))) := by
  have ne : ∀ {b : Nat} {x : MO}, H b = some x → (∀ fs, x ≠ .ins 589 fs) → b ≠ K.h := fun h1 h2 e => by
    rw [e, I.h] at h1; obtain rfl := Option.some.inj h1; exact h2 _ rfl
  refine ⟨?_, Hp.set_self _ _ _, ?_, ?_, ?_, ?_, ?_, ?_, ?_, I.nd, ?_⟩
  · rw [Hp.set_ne _ _ (ne I.M nofun)]; exact I.M
  · rw [Hp.set_ne _ _ (ne I.dv nofun)]; exact I.dv
  · rw [Hp.set_ne _ _ (ne I.rf nofun)]; exact I.rf
  · rw [Hp.set_ne _ _ (ne I.lg nofun)]; exact I.lg
  · rw [Hp.set_ne _ _ (ne I.o nofun)]; exact I.o
  · obtain ⟨x, y, h1⟩ := I.r; exact ⟨x, y, by rw [Hp.set_ne _ _ (ne h1 nofun)]; exact h1⟩
  · rw [Hp.set_ne _ _ (ne I.hi nofun)]; exact I.hi
  · intro p hp
    obtain ⟨h1, h2⟩ := I.ws p hp
    exact ⟨by rw [Hp.set_ne _ _ (ne h1 nofun)]; exact h1, h2⟩
  · intro b h1 h2 h3 h4
    rw [Hp.set_ne _ _ h2]; exact I.fr b h1 h2 h3 h4
/-- a text is noted -/
theorem MI.note (k : KOk K) (I : MI K st L hs l H) (t : List Nat) : MI K st (L ++ [t]) hs l ((H.set K.dv (.dic (L.length + 1))).set K.lg (.lst (L.map entV ++ [entV t]))) := by
  have ne : ∀ {b : Nat} {x : MO}, H b = some x → (∀ fs, x ≠ .dic fs) → b ≠ K.dv := fun h1 h2 e => by
    rw [e, I.dv] at h1; obtain rfl := Option.some.inj h1; exact h2 _ rfl
  have ne' : ∀ {b : Nat} {x : MO}, H b = some x → (∀ fs, x ≠ .lst fs) → b ≠ K.lg := fun h1 h2 e => by
    rw [e, I.lg] at h1; obtain rfl := Option.some.inj h1; exact h2 _ rfl
  have two : ∀ {b : Nat} {x : MO} {y : MO}, H b = some x → b ≠ K.lg → b ≠ K.dv → ((H.set K.dv (.dic (L.length + 1))).set K.lg y) b = some x := fun h1 h2 h3 => by rw [Hp.set_ne _ _ h2, Hp.set_ne _ _ h3]; exact h1
  refine ⟨two I.M (ne' I.M nofun) (ne I.M nofun), two I.h (ne' I.h nofun) (ne I.h nofun), ?_, two I.rf k.h5.symm (ne I.rf nofun), ?_, two I.o k.h4.symm (ne I.o nofun), ?_, two I.hi k.h1 (ne I.hi nofun), ?_, I.nd, ?_⟩
  · have : K.dv ≠ K.lg := fun e => by have z := I.dv; rw [e, I.lg] at z; cases z
    rw [Hp.set_ne _ _ this, Hp.set_self]; simp
  · rw [Hp.set_self]; simp
  · obtain ⟨x, y, h1⟩ := I.r; exact ⟨x, y, two h1 (ne' h1 nofun) (ne h1 nofun)⟩
  · intro p hp
    obtain ⟨h1, h2⟩ := I.ws p hp
    exact ⟨two h1 (ne' h1 nofun) (ne h1 nofun), h2⟩
  · intro b h1 h2 h3 h4
    rw [Hp.set_ne _ _ h4, Hp.set_ne _ _ h3]; exact I.fr b h1 h2 h3 h4
end

section
variable {d : Nat} {H : Hp} {Q : QV}
theorem c_copied {w o p : Nat} {c : Cfg} (hw : H w = some (wayO o c)) (q : ∀ a, H a = none → Q (.ref a) (H.set a (wayO o ⟨p, c.i, c.m⟩))) : CN (d + 2) 446 [.ref w, .int p] H Q := by
  refine callF (P := P_Way_copied) rfl rfl rfl ?_
  simp only [P_Way_copied, sCons, sRet, pLoc, pNil, pCons, pAttr, attrQ, pCall, retV, getF, consV, consK, attrI_ins, attrK, callK, List.getElem?_cons_succ, List.getElem?_cons_zero, List.replicate_succ, List.replicate_zero, List.cons_append, List.nil_append, Nat.reduceBEq, hw, wayO, at_449_0, at_449_2, at_449_3, at_449_4, at_449_5]
  refine callI (fI := 439) (P := P_Way_init) rfl rfl rfl fun x hx => ?_
  simp only [P_Way_init, sCons, sNil, sPut, pLoc, putQ, retV, putF, atMost, putI_ins, seqK, retK, nextK, putK2, putK, List.getElem?_cons_succ, List.getElem?_cons_zero, List.replicate_zero, List.cons_append, List.nil_append, Nat.reduceBEq, true_and, Hp.set_self, Hp.set_set, lq_mark, at_449_0, at_449_1, at_449_2, at_449_3, at_449_4, at_449_5]
  simpa [wayO] using q x hx
theorem c_step {K : MK} {st : Nat} (hh : H K.h = some (hostO K.dv K.rf K.lg st)) (hst : st + 1 ≤ 99999) (q : ∀ v, Q v (H.set K.h (hostO K.dv K.rf K.lg (st + 1)))) : CN (d + 1) 586 [.ref K.h] H Q := by
  refine callF (P := P_PlainHost_step) rfl rfl rfl ?_
  simp only [P_PlainHost_step, sCons, sNil, sIf, sAugA, pVal, pLoc, pAttr, attrQ, putQ, tCmp, bLt, augQ, retV, getF, putF, atMost, optQ_some, cmpV, cmpK, attrI_ins, attrK, putI_ins, seqK, ifK, nextK, augA4, augA3, augA2, augA1, List.getElem?_cons_zero, List.replicate_succ, List.replicate_zero, List.cons_append, List.nil_append, Nat.reduceBEq, Hp.set_self, hh, hostO, at_589_10, at_589_13]
  rw [decide_eq_false (by omega : ¬ (99999 : Int) < (st : Int) + 1)]
  simpa [hostO] using q .none
end
section
variable {K : MK} {st : Nat} {L : List (List Nat)} {hs l : List (Nat × Cfg)} {H : Hp} {d : Nat} {Q : QV}
theorem c_way_back0 (I : MI K st L [] l H) (q : Q .none H) : CN (d + 1) 481 [.ref K.M] H Q := by
  refine callF (P := P_Match_way_back) rfl rfl rfl ?_
  simp only [P_Match_way_back, sCons, sRet, pVal, pLoc, pIf, pNil, pCons, pAttr, attrQ, pBlt, bLen, lenV, pLm, isLst, onLst, bPop, tCmp, bLt, retV, getF, optQ_some, ifPK, cmpV, cmpK, consV, consK, attrI_ins, attrK, bltK, isLstI_lst, lmK2, lmK, onLstI_lst, lenI_lst, seqK, retK, List.getElem?_cons_zero, List.replicate_succ, List.replicate_zero, List.cons_append, List.nil_append, List.length_nil, Nat.reduceBEq, Nat.zero_le, true_and, I.M, I.hi, at_526_8, List.map_nil]
  simpa using q
theorem c_way_back (k : KOk K) {w : Nat} {c : Cfg} (I : MI K st L (hs ++ [(w, c)]) l H) (hl : hs.length + 1 ≤ 100000) (q : ∀ H', MI K st L hs l H' → Q (.ref w) H') : CN (d + 1) 481 [.ref K.M] H Q := by
  refine callF (P := P_Match_way_back) rfl rfl rfl ?_
  have hi := I.hi
  rw [List.map_append] at hi
  simp only [P_Match_way_back, sCons, sRet, pVal, pLoc, pIf, pNil, pCons, pAttr, attrQ, pBlt, bLen, lenV, pLm, isLst, onLst, bPop, tCmp, bLt, retV, getF, optQ_some, ifPK, cmpV, cmpK, consV, consK, attrI_ins, attrK, bltK, isLstI_lst, lmK2, lmK, onLstI_lst, lenI_lst, seqK, retK, List.getElem?_cons_zero, List.replicate_succ, List.replicate_zero, List.cons_append, List.nil_append, List.length_cons, List.length_nil, Nat.reduceBEq, Nat.reduceAdd, Nat.reduceLeDiff, I.M, hi, at_526_8, List.map_nil, List.map_cons, List.length_append, List.length_map]
  refine ⟨by omega, ?_⟩
  rw [decide_eq_true (by omega : ((hs.length + (0 + 1) : Nat) : Int) > 0)]
  simp only [List.getLast?_append, List.getLast?_singleton, Option.some_or, List.dropLast_concat]
  refine ⟨by omega, ?_⟩
  exact q _ (I.hist k hs)
theorem c_met_once (k : KOk K) {w : Nat} {c : Cfg} {g : Sg} (hg : g.ok) (I : MI K st L hs ((w, c) :: l) H) (q1 : ∀ e, g.fin K.s c.i = some e → ∀ H', MI K st L hs ((w, ⟨c.pc + 1, e, c.m⟩) :: l) H' → Q (.bool true) H')
    (q0 : g.fin K.s c.i = none → Q (.bool false) H) : CN (d + 4) 495 [.ref K.M, (Od.one g).v K.r, .ref w] H Q := by
  refine callF (P := P_Match_met_once) rfl rfl rfl ?_
  have hw := (I.ws _ (.head _)).1
  dsimp only [wayO] at hw
  simp only [P_Match_met_once, Od.v, sCons, sNil, sAsg, sIf, pVal, pLoc, pOp2, pTup, pNil, pCons, pAttr, attrQ, pCall, tOfP, truthV, bIdx, pIsi, retV, getF, atMost, optQ_some, op2V, op2K, ofPK, consV, consK, tupK, attrI_ins, attrK, callK, seqK, ifK, asgK, List.getElem?_cons_succ, List.getElem?_cons_zero, List.set_cons_succ, List.set_cons_zero, List.replicate_succ, List.replicate_zero, List.cons_append, List.nil_append, List.length_cons, List.length_nil, Nat.reduceBEq, Nat.reduceAdd, Nat.reduceLeDiff, Int.reduceLE, Int.reduceToNat, and_true, reduceIte, I.M, hw, lq_told, isi_told, at_449_2, at_526_6]
  refine c_plain_end k.s hg ?_
  cases e : g.fin K.s c.i with
  | none =>
    simp only [optV, sCons, sRet, sIf, pVal, pLoc, tCmp, bIs, optQ_some, cmpV, cmpK, seqK, retK, ifK, asgK, List.getElem?_cons_succ, List.getElem?_cons_zero, List.set_cons_succ, List.set_cons_zero]
    exact q0 e
  | some e' =>
    simp only [optV, sCons, sNil, sRet, sIf, sPut, sAugA, pVal, pLoc, attrQ, putQ, tCmp, bIs, augQ, getF, putF, atMost, optQ_some, cmpV, cmpK, attrI_ins, putI_ins, seqK, retK, ifK, asgK, nextK, putK2, putK, augA4, augA3, augA2, augA1, List.getElem?_cons_succ, List.getElem?_cons_zero, List.set_cons_succ, List.set_cons_zero, Nat.reduceBEq, Bool.not_true, Hp.set_self, Hp.set_set, hw, at_449_1, at_449_2]
    exact q1 e' e _ (I.turn (c' := ⟨c.pc + 1, e', c.m⟩))
theorem c_assign (k : KOk K) (I : MI K st L hs l H) (hL : L.length ≤ 99999) {t : List Nat} (q : ∀ H', MI K st (L ++ [t]) hs l H' → Q (.bool true) H') : CN (d + 1) 579 [.ref K.h, .ref K.r, .str t] H Q := by
  refine callF (P := P_PlainHost_assign) rfl rfl rfl ?_
  obtain ⟨x, y, hr⟩ := I.r
  have hh := I.h
  dsimp only [hostO] at hh
  have n1 : K.h ≠ K.dv := fun e => by have z := I.h; rw [e, I.dv] at z; cases z
  have n2 : K.r ≠ K.dv := fun e => by rw [e, I.dv] at hr; cases hr
  have n3 : K.lg ≠ K.dv := fun e => by have z := I.lg; rw [e, I.dv] at z; cases z
  simp only [P_PlainHost_assign, sCons, sNil, sRet, sExp, sIf, sSet, pVal, pLoc, pTup, pNil, pCons, pAttr, attrQ, pLm, isLst, onLst, bAppend, tCmp, bIn, retV, getF, atMost, optQ_some, cmpV, cmpK, consV, consK, tupK, attrI_ins, attrK, isLstI_lst, lmK2, lmK, onLstI_lst, seqK, retK, expK, ifK, nextK, setK3, setK2, setK, setQ, strsOf, List.getElem?_cons_succ, List.getElem?_cons_zero, List.replicate_zero, List.cons_append, List.nil_append, Nat.reduceBEq, List.contains_nil, true_and, Option.map_some, hr, hh, I.rf, I.dv, Hp.set_ne _ _ n1, Hp.set_ne _ _ n2, Hp.set_ne _ _ n3, I.lg, at_208_17, at_589_9, at_589_11, at_589_14]
  simp only [List.length_map]
  exact ⟨by omega, by omega, q _ (I.note k t)⟩
theorem c_ended (k : KOk K) {w : Nat} {c : Cfg} {b : Nat} {m : List Nat} (hm : c.m = b :: m) (hi : c.i ≤ K.s.length) (I : MI K st L hs ((w, c) :: l) H) (hL : L.length ≤ 99999) :
    (∀ (q1 : c.i > b → ∀ H', MI K st L hs ((w, ⟨c.pc, c.i, m⟩) :: l) H' → Q (.bool true) H') (q0 : ¬ c.i > b → ∀ H', MI K st L hs ((w, ⟨c.pc, c.i, m⟩) :: l) H' → Q (.bool false) H'), CN (d + 2) 502 [.ref K.M, Od.gain.v K.r, .ref w] H Q) ∧
    (∀ (q1 : ∀ H', MI K st (L ++ [(K.s.take c.i).drop b]) hs ((w, ⟨c.pc, c.i, m⟩) :: l) H' → Q (.bool true) H'), CN (d + 2) 502 [.ref K.M, Od.set.v K.r, .ref w] H Q) := by
  have hw := (I.ws _ (.head _)).1
  dsimp only [wayO] at hw
  rw [hm] at hw
  have nM : K.M ≠ w := fun e => by have z := I.M; rw [e, hw] at z; cases z
  refine ⟨fun q1 q0 => ?_, fun q1 => ?_⟩
  · refine callF (P := P_Match_ended) rfl rfl rfl ?_
    simp only [P_Match_ended, Od.v, sCons, sRet, sAsg, sIf, sPut, sTwo, pVal, pLoc, pOp2, pSl, slQ, pAttr, attrQ, putQ, pOfT, tCmp, bLt, bEq, bIdx, partOf, slS, two, retV, getF, putF, atMost, optQ_some, op2V, op2K, cmpV, cmpK, ofTK, slK4, slK3, slK2, slK1, attrI_ins, attrK, putI_ins, seqK, retK, ifK, asgK, nextK, putK2, putK, twoK2, twoK, List.getElem?_cons_succ, List.getElem?_cons_zero, List.set_cons_succ, List.set_cons_zero, List.replicate_succ, List.replicate_zero, List.cons_append, List.nil_append, List.length_cons, List.length_nil, nb3, nb4, Nat.reduceBEq, Nat.reduceAdd, Nat.reduceLeDiff, Int.reduceToNat, Int.le_refl, Bool.and_true, and_true, Hp.set_self, reduceIte, I.M, hw, markV, lq_mark, Hp.set_ne _ _ nM, at_449_2, at_449_4, at_526_6]
    rw [if_pos ⟨nn _, nn _⟩]
    dsimp only
    refine ⟨by have := k.s; omega, ?_⟩
    have J := I.turn (c' := ⟨c.pc, c.i, m⟩)
    by_cases h : c.i > b
    · rw [decide_eq_true (by omega : (c.i : Int) > b)]; exact q1 h _ J
    · rw [decide_eq_false (by omega : ¬ (c.i : Int) > b)]; exact q0 h _ J
  · refine callF (P := P_Match_ended) rfl rfl rfl ?_
    have J := I.turn (c' := ⟨c.pc, c.i, m⟩)
    have nh : K.h ≠ w := fun e => by have z := I.h; rw [e, hw] at z; cases z
    have hh := I.h
    dsimp only [hostO] at hh
    simp only [P_Match_ended, Od.v, sCons, sNil, sRet, sAsg, sIf, sPut, sTwo, pVal, pLoc, pOp2, pNil, pCons, pSl, slQ, pAttr, attrQ, putQ, pMeth, methQ, tCmp, bEq, bIdx, partOf, slS, two, retV, getF, putF, atMost, optQ_some, op2V, op2K, cmpV, cmpK, consV, consK, slK4, slK3, slK2, slK1, attrI_ins, attrK, putI_ins, methI_ins, methK3, methK2, methK, seqK, ifK, asgK, nextK, putK2, putK, twoK2, twoK, List.getElem?_cons_succ, List.getElem?_cons_zero, List.set_cons_succ, List.set_cons_zero, List.replicate_succ, List.replicate_zero, List.cons_append, List.nil_append, List.length_cons, List.length_nil, nb1, nb3, nb4, Nat.reduceBEq, Nat.reduceAdd, Nat.reduceLeDiff, Int.reduceLE, Int.reduceToNat, Int.le_refl, Bool.and_true, Bool.and_false, and_true, Hp.set_self, reduceIte, I.M, hw, hh, markV, lq_mark, Hp.set_ne _ _ nM, Hp.set_ne _ _ nh, at_449_2, at_449_4, at_526_6, at_526_7, me_589_34, na_589_34]
    rw [if_pos ⟨nn _, nn _⟩]
    dsimp only
    refine ⟨by have := k.s; omega, ?_⟩
    exact c_assign k J hL q1
/-- a way is put upon the history -/
theorem MI.push (k : KOk K) {l : List (Nat × Cfg)} (I : MI K st L hs (l ++ hs) H) {a : Nat} (ha : H a = none) (c : Cfg) : MI K st L (hs ++ [(a, c)]) (l ++ (hs ++ [(a, c)])) ((H.set a (wayO K.o c)).set K.hi (.lst ((hs.map fun p => .ref p.1) ++ [.ref a]))) := by
  have J := (I.way ha c).hist k (hs ++ [(a, c)])
  rw [List.map_append] at J
  refine J.perm ?_
  rw [← List.append_assoc]
  exact List.perm_append_comm
theorem often_loop (k : KOk K) {w lv bb : Nat} {c : Cfg} {all : List V} {lst : List V} {Qm : QS} (hlw : K.hi ≠ lv) (hbw : K.hi ≠ bb) : ∀ (rest : List Nat) (hs : List (Nat × Cfg)) (H : Hp) (x3 x4 : V),
    hs.length + rest.length ≤ 100000 → MI K st L hs ((w, c) :: hs) H → H bb = some (.lst all) → H lv = some (.lst lst) →
    (∀ new H' x3 x4, new.map (·.2) = rest.map (fun e => (⟨c.pc, e, c.m⟩ : Cfg)) → MI K st L (hs ++ new) ((w, c) :: (hs ++ new)) H' → H' lv = some (.lst lst) → Qm .next [.ref K.M, .ref w, .ref lv, x3, x4, .un] H') →
    forL bb all 3 B_Match_met_often_1 (intsV rest) (CN (d + 2)) [.ref K.M, .ref w, .ref lv, x3, x4, .un] H Qm
  | [], hs, H, x3, x4, hn, I, hb, hlv, q => ⟨hb, q [] H x3 x4 rfl (by simpa using I) hlv⟩
  | e :: rest, hs, H, x3, x4, hn, I, hb, hlv, q => by
    refine forL_cons hb fun Kf k1 _ _ => ?_
    have hw := (I.ws _ (.head _)).1
    dsimp only [wayO] at hw
    simp only [B_Match_met_often_1, sCons, sAsg, pLoc, pNil, pCons, pAttr, attrQ, pMeth, methQ, getF, consV, consK, attrI_ins, attrK, methI_ins, methK3, methK2, methK, List.getElem?_cons_succ, List.getElem?_cons_zero, List.set_cons_succ, List.set_cons_zero, Nat.reduceBEq, hw, at_449_1, me_449_24, na_449_24]
    refine c_copied (o := K.o) (c := c) (by simpa [wayO] using hw) fun a ha => ?_
    have nM : K.M ≠ a := fun e => by have z := I.M; rw [e, ha] at z; cases z
    have nhi : K.hi ≠ a := fun e => by have z := I.hi; rw [e, ha] at z; cases z
    have nlv : lv ≠ a := fun e => by rw [e, ha] at hlv; cases hlv
    have nbb : bb ≠ a := fun e => by rw [e, ha] at hb; cases hb
    simp only [wayO, sCons, sNil, sExp, sPut, pLoc, pNil, pCons, pAttr, attrQ, putQ, pLm, isLst, onLst, bAppend, getF, putF, atMost, consV, consK, attrI_ins, attrK, putI_ins, isLstI_lst, lmK2, lmK, onLstI_lst, seqK, expK, asgK, nextK, putK2, putK, List.getElem?_cons_succ, List.getElem?_cons_zero, List.set_cons_succ, List.set_cons_zero, Nat.reduceBEq, Hp.set_self, Hp.set_set, Hp.set_ne _ _ nM, Hp.set_ne _ _ nhi, I.M, I.hi, at_449_2, at_526_8, List.length_map]
    refine ⟨by simp only [List.length_cons] at hn; omega, ?_⟩
    rw [k1]
    have J := MI.push k (l := [(w, c)]) I ha ⟨c.pc, e, c.m⟩
    refine often_loop (lst := lst) k hlw hbw rest (hs ++ [(a, ⟨c.pc, e, c.m⟩)]) _ _ _ (by simp only [List.length_append, List.length_cons, List.length_nil] at hn ⊢; omega) J ?_ ?_ ?_
    · rw [Hp.set_ne _ _ hbw.symm, Hp.set_ne _ _ nbb]; exact hb
    · rw [Hp.set_ne _ _ hlw.symm, Hp.set_ne _ _ nlv]; exact hlv
    · intro new H' y3 y4 h1 h2 h3
      refine q ((a, ⟨c.pc, e, c.m⟩) :: new) H' y3 y4 (by simp [h1]) ?_ h3
      simpa using h2
theorem c_met_often (k : KOk K) {w lv : Nat} {c : Cfg} {es : List Nat} (hes : es.length ≤ 2000) (hlv : H lv = some (.lst (intsV es))) (hlw : K.hi ≠ lv) (hn : hs.length + es.length ≤ 100000) (I : MI K st L hs ((w, c) :: hs) H)
    (q0 : es = [] → Q (.bool false) H)
    (q1 : ∀ e es', es = e :: es' → ∀ new H', new.map (·.2) = es'.reverse.map (fun e => (⟨c.pc + 1, e, c.m⟩ : Cfg)) → MI K st L (hs ++ new) ((w, ⟨c.pc + 1, e, c.m⟩) :: (hs ++ new)) H' → Q (.bool true) H') : CN (d + 3) 516 [.ref K.M, .ref w, .ref lv] H Q := by
  refine callF (P := P_Match_met_often) rfl rfl rfl ?_
  have hw := (I.ws _ (.head _)).1
  dsimp only [wayO] at hw
  have nw : lv ≠ w := fun e => by rw [e, hw] at hlv; cases hlv
  simp only [P_Match_met_often, sCons, sNil, sRet, sIf, sAugA, pVal, pLoc, pNil, pCons, attrQ, putQ, pBlt, bLen, lenV, tCmp, bEq, augQ, retV, getF, putF, atMost, optQ_some, cmpV, cmpK, consV, consK, attrI_ins, putI_ins, bltK, lenI_lst, seqK, retK, ifK, nextK, augA4, augA3, augA2, augA1, List.getElem?_cons_succ, List.getElem?_cons_zero, List.replicate_succ, List.replicate_zero, List.cons_append, List.nil_append, Nat.reduceBEq, hlv, hw, intsV, List.length_map, at_449_1]
  refine ⟨by omega, ?_⟩
  cases hes' : es with
  | nil => exact q0 hes'
  | cons e es' =>
    have J := I.turn (c' := ⟨c.pc + 1, c.i, c.m⟩)
    have nz : (((e :: es').length : Nat) : Int) ≠ 0 := by simp only [List.length_cons]; omega
    rw [beq_eq_false_iff_ne.mpr nz]
    have hlv' : (H.set w (wayO K.o ⟨c.pc + 1, c.i, c.m⟩)) lv = some (.lst (intsV es)) := by rw [Hp.set_ne _ _ nw]; exact hlv
    generalize hH : H.set w (wayO K.o ⟨c.pc + 1, c.i, c.m⟩) = H1 at *
    have hH' : H.set w (.ins 449 [(0, V.ref K.o), (1, V.int (c.pc + 1)), (2, V.int c.i), (3, V.none), (4, markV c.m), (5, V.none)]) = H1 := hH
    rw [hH']
    simp only [sFor, pVal, pLoc, pSl, slQ, partOf, slL, slK4, slK3, slK2, slK1, onList, List.getElem?_cons_succ, List.getElem?_cons_zero, and_true, Hp.set_self, reduceIte, hlv', intsV]
    refine ⟨by simp; omega, fun bb hb => ?_⟩
    have er : (List.drop 1 (List.map (fun n => V.int (n : Nat)) es)).reverse = intsV es'.reverse := by subst hes'; simp [intsV]
    rw [er]
    have nbb : lv ≠ bb := fun e => by rw [e, hb] at hlv'; cases hlv'
    have nhb : K.hi ≠ bb := fun e => by have z := J.hi; rw [e, hb] at z; cases z
    refine often_loop (c := ⟨c.pc + 1, c.i, c.m⟩) (lst := intsV es) k hlw nhb es'.reverse hs _ _ _ ?_ (J.fresh hb (fun _ => J.live) _) (Hp.set_self _ _ _) (by rw [Hp.set_ne _ _ nbb]; exact hlv') ?_
    · subst hes'; simp only [List.length_cons, List.length_reverse] at hn ⊢; omega
    · intro new H' x3 x4 h1 h2 h3
      have hw' := (h2.ws _ (.head _)).1
      dsimp only [wayO] at hw'
      subst hes'
      simp only [sCons, sPut, pVal, pLoc, pOp2, bIdx, op2V, op2K, seqK, List.getElem?_cons_succ, List.getElem?_cons_zero, List.length_cons, Nat.reduceLeDiff, Int.reduceToNat, Int.le_refl, true_and, h3, intsV, List.map_cons, List.length_map]
      rw [if_pos (by simp only [List.length_cons] at hes; omega)]
      simp only [sCons, sRet, pVal, pLoc, putQ, putF, atMost, optQ_some, putI_ins, seqK, retK, nextK, putK2, putK, List.getElem?_cons_succ, List.getElem?_cons_zero, Nat.reduceBEq, hw', at_449_2]
      exact q1 e es' rfl new _ h1 (h2.turn (c' := ⟨c.pc + 1, e, c.m⟩))
theorem waysE_len {s : List Nat} {i : Nat} {b : Bool} (hs : s.length ≤ 1000) : (waysE s i b).length ≤ 1001 := by
  induction b using Bool.casesOn with
  | true => simp [waysE]; omega
  | false =>
    have : ∀ n i, (balEs s n i).length ≤ n := by
      intro n
      induction n with
      | zero => intro i; exact Nat.le_refl _
      | succ n ih =>
        intro i
        unfold balEs
        split
        · simp only [List.length_cons]; have := ih ‹_›; omega
        · simp
    have := this (s.length - i) i
    show (balEs s (s.length - i) i).length ≤ _
    omega
theorem c_other (k : KOk K) {w : Nat} {c : Cfg} (hi : c.i ≤ K.s.length) (hn : hs.length + 2000 ≤ 100000) (I : MI K st L hs ((w, c) :: hs) H) :
    (∀ (q0 : Q (.bool false) H), CN (d + 4) 509 [.ref K.M, Od.fail.v K.r, .ref w] H Q) ∧
    (∀ (b : Bool) (q0 : waysE K.s c.i b = [] → ∀ H', MI K st L hs ((w, c) :: hs) H' → Q (.bool false) H')
      (q1 : ∀ e es', waysE K.s c.i b = e :: es' → ∀ new H', new.map (·.2) = es'.reverse.map (fun e => (⟨c.pc + 1, e, c.m⟩ : Cfg)) → MI K st L (hs ++ new) ((w, ⟨c.pc + 1, e, c.m⟩) :: (hs ++ new)) H' → Q (.bool true) H'),
      CN (d + 4) 509 [.ref K.M, (Od.ways b).v K.r, .ref w] H Q) := by
  have hw := (I.ws _ (.head _)).1
  dsimp only [wayO] at hw
  refine ⟨fun q0 => ?_, fun b q0 q1 => ?_⟩
  · refine callF (P := P_Match_other) rfl rfl rfl ?_
    simp only [P_Match_other, Od.v, sCons, sRet, sAsg, sIf, pVal, pLoc, pOp2, tCmp, bEq, bIdx, retV, optQ_some, op2V, op2K, cmpV, cmpK, seqK, retK, ifK, asgK, List.getElem?_cons_succ, List.getElem?_cons_zero, List.set_cons_succ, List.set_cons_zero, List.replicate_succ, List.replicate_zero, List.cons_append, List.nil_append, List.length_cons, List.length_nil, nb3, nb4, Nat.reduceBEq, Nat.reduceAdd, Nat.reduceLeDiff, Int.reduceToNat, Int.le_refl, Bool.and_true, and_true, reduceIte]
    exact q0
  · refine callF (P := P_Match_other) rfl rfl rfl ?_
    unfold P_Match_other
    rw [w_seq]
    simp only [Od.v, sAsg, asgK, op2K, op2V, optQ_some, pOp2, pLoc, pVal, bIdx, List.cons_append, List.replicate, List.nil_append, List.getElem?_cons_succ, List.getElem?_cons_zero, Int.reduceToNat, Int.reduceLE, List.length_cons, List.length_nil, Nat.reduceAdd, Nat.reduceLeDiff, reduceIte, and_self, List.set_cons_succ, List.set_cons_zero]
    refine ifeq_nil rfl rfl (ifeq_yes rfl rfl (w_ret ?_))
    simp only [pVal, pLoc, pOp2, pNil, pCons, pAttr, attrQ, pCall, pMeth, methQ, bIdx, retV, getF, optQ_some, op2V, op2K, consV, consK, attrI_ins, attrK, callK, methI_ins, methK2, methK, List.getElem?_cons_succ, List.getElem?_cons_zero, List.length_cons, List.length_nil, Nat.reduceBEq, Nat.reduceAdd, Nat.reduceLeDiff, Int.reduceLE, Int.reduceToNat, and_true, reduceIte, I.M, hw, at_449_2, at_526_6, me_526_31, na_526_31]
    refine c_ends_of k.s hi fun a ha => ?_
    have J := I.fresh ha (fun _ => I.live) (.lst (intsV (waysE K.s c.i b)))
    have nhi : K.hi ≠ a := fun e => by have z := I.hi; rw [e, ha] at z; cases z
    have wl := waysE_len (i := c.i) (b := b) k.s
    refine c_met_often (es := waysE K.s c.i b) k (by omega) (Hp.set_self _ _ _) nhi (by omega) J (fun e => q0 e _ J) fun e es' h new H' h1 h2 => q1 e es' h new H' h1 h2
end

theorem w_nest {a r : ST} {C : Cl} {ρ : List V} {H : Hp} {Q : QS} (q : sCons a r C ρ H Q) : sCons (sCons a sNil) r C ρ H Q := by
  have e : sCons (sCons a sNil) r C ρ H Q = sCons a r C ρ H Q := by
    show a C ρ H _ = a C ρ H _
    congr 1
  rw [e]
  exact q
section
variable {K : MK} {st : Nat} {L : List (List Nat)} {hs : List (Nat × Cfg)} {H : Hp} {d : Nat} {Q : QV}
theorem c_done (k : KOk K) {w : Nat} {c : Cfg} {od : Od} (ho : stepOk c od) (hi : c.i ≤ K.s.length) (hn : hs.length + 2000 ≤ 100000) (hL : L.length ≤ 99999) (I : MI K st L hs ((w, c) :: hs) H)
    (q0 : stepN K.s c od = [] → ∀ H', MI K st (L ++ stepL K.s c od) hs hs H' → Q (.bool false) H')
    (q1 : ∀ c' cs, stepN K.s c od = c' :: cs → ∀ new H', new.map (·.2) = cs.reverse → MI K st (L ++ stepL K.s c od) (hs ++ new) ((w, c') :: (hs ++ new)) H' → Q (.bool true) H') :
    CN (d + 5) 488 [.ref K.M, od.v K.r, .ref w] H Q := by
  refine callF (P := P_Match_done) rfl rfl rfl ?_
  have hw := (I.ws _ (.head _)).1
  dsimp only [wayO] at hw
  have sub : hs.Sublist ((w, c) :: hs) := .cons _ (.refl _)
  have nM : K.M ≠ w := fun e => by have z := I.M; rw [e, hw] at z; cases z
  have head : ∀ (od : Od) (word : List Nat) (rest : List V) (r : ST), od.v K.r = .tup (.str word :: rest) → rest.length ≤ 10 → r (CN (d + 4)) [.ref K.M, od.v K.r, .ref w, .str word, .un, .un, .un, .un, .un, .un, .un, .un] H (fun fl _ H => Q (retV fl) H) →
      sCons (sAsg 3 (pOp2 bIdx (pLoc 1) (pVal (V.int 0)))) r (CN (d + 4)) ([.ref K.M, od.v K.r, .ref w] ++ List.replicate 9 V.un) H (fun fl _ H => Q (retV fl) H) := by
    intro od word rest r e1 e2 q
    rw [w_seq]
    rw [e1] at q ⊢
    simp only [sAsg, pVal, pLoc, pOp2, bIdx, retV, op2V, op2K, List.getElem?_cons_succ, List.getElem?_cons_zero, List.replicate_succ, List.replicate_zero, List.cons_append, List.nil_append, List.length_cons, Nat.reduceLeDiff, Int.reduceToNat, Int.le_refl, true_and]
    rw [if_pos (by omega)]
    exact q
  unfold P_Match_done
  induction od using Od.casesOn with
  | one g =>
    refine head _ _ _ _ rfl (by simp) (ifeq_yes rfl rfl (w_ret ?_))
    simp only [Od.v, pLoc, pNil, pCons, pMeth, methQ, retV, getF, consV, consK, methI_ins, methK3, methK2, methK, List.getElem?_cons_succ, List.getElem?_cons_zero, Nat.reduceBEq, I.M, me_526_28, na_526_28]
    refine c_met_once k ho I (fun e he H' J => ?_) (fun he => ?_)
    · refine q1 ⟨c.pc + 1, e, c.m⟩ [] (by simp [stepN, he]) [] H' rfl (by simpa [stepL] using J)
    · exact q0 (by simp [stepN, he]) H (by simpa [stepL] using I.sub sub)
  | ways b =>
    refine head _ _ _ _ rfl (by simp) (ifeq_nil rfl rfl (ifeq_no rfl rfl (w_nest (ifeq_no rfl rfl (w_nest (ifeq_no rfl rfl (w_nest ?_)))))))
    simp only [Od.v, sCons, sRet, sIf, pVal, pLoc, pTup, pNil, pCons, pMeth, methQ, tCmp, bIn, bEq, retV, getF, atMost, optQ_some, cmpV, cmpK, consV, consK, tupK, methI_ins, methK3, methK2, methK, ifK, strsOf, List.getElem?_cons_succ, List.getElem?_cons_zero, nb1, nb2, nb3, nb4, Nat.reduceBEq, Bool.and_true, Bool.and_false, List.contains_cons, List.contains_nil, Bool.or_false, Option.map_some, I.M, me_526_30, na_526_30]
    refine (c_other k hi hn I).2 b (fun he H' J => ?_) (fun e es' he new H' h1 J => ?_)
    · exact q0 (by simp [stepN, he]) H' (by simpa [stepL] using J.sub sub)
    · refine q1 ⟨c.pc + 1, e, c.m⟩ (es'.map fun e => ⟨c.pc + 1, e, c.m⟩) (by simp [stepN, he]) new H' (by simpa using h1) (by simpa [stepL] using J)
  | split n =>
    refine head _ _ _ _ rfl (by simp) (ifeq_nil rfl rfl (ifeq_yes rfl rfl ?_))
    simp only [Od.v, sCons, sExp, pVal, pLoc, pOp2, pNil, pCons, pAttr, attrQ, pMeth, methQ, pLm, isLst, bIdx, retV, getF, optQ_some, op2V, op2K, consV, consK, attrI_ins, attrK, methI_ins, methK3, methK2, methK, lmK, List.getElem?_cons_succ, List.getElem?_cons_zero, List.length_cons, List.length_nil, Nat.reduceBEq, Nat.reduceAdd, Nat.reduceLeDiff, Int.reduceLE, Int.reduceToNat, and_true, reduceIte, I.M, hw, at_526_8, me_449_24, na_449_24]
    simp only [I.hi]
    refine c_copied (o := K.o) (c := c) (by simpa [wayO] using hw) fun a ha => ?_
    have nhi : K.hi ≠ a := fun e => by have z := I.hi; rw [e, ha] at z; cases z
    have nwa : w ≠ a := fun e => by rw [e, ha] at hw; cases hw
    have nwh : w ≠ K.hi := fun e => by rw [e, I.hi] at hw; cases hw
    simp only [sCons, sNil, sRet, sAugA, pVal, pLoc, pNil, attrQ, putQ, onLst, bAppend, augQ, getF, putF, atMost, consV, consK, attrI_ins, putI_ins, lmK2, onLstI_lst, seqK, retK, expK, nextK, augA4, augA3, augA2, augA1, List.getElem?_cons_succ, List.getElem?_cons_zero, Nat.reduceBEq, Hp.set_ne _ _ nhi, I.hi, List.length_map, Hp.set_ne _ _ nwh, Hp.set_ne _ _ nwa, hw, at_449_1]
    refine ⟨by omega, ?_⟩
    have J := MI.push k (l := [(w, c)]) I ha ⟨n, c.i, c.m⟩
    exact q1 ⟨c.pc + 1, c.i, c.m⟩ [⟨n, c.i, c.m⟩] rfl [(a, ⟨n, c.i, c.m⟩)] _ rfl (by simpa [stepL, wayO] using J.turn (c' := ⟨c.pc + 1, c.i, c.m⟩))
  | jump n =>
    refine head _ _ _ _ rfl (by simp) (ifeq_nil rfl rfl (ifeq_no rfl rfl (w_nest (ifeq_yes rfl rfl ?_))))
    simp only [Od.v, sCons, sRet, sPut, pVal, pLoc, pOp2, putQ, bIdx, retV, putF, atMost, optQ_some, op2V, op2K, putI_ins, seqK, retK, nextK, putK2, putK, List.getElem?_cons_succ, List.getElem?_cons_zero, List.length_cons, List.length_nil, Nat.reduceBEq, Nat.reduceAdd, Nat.reduceLeDiff, Int.reduceLE, Int.reduceToNat, and_true, reduceIte, hw, at_449_1]
    have J := I.turn (c' := ⟨n, c.i, c.m⟩)
    exact q1 ⟨n, c.i, c.m⟩ [] rfl [] _ rfl (by simpa [stepL, wayO] using J)
  | mark =>
    refine head _ _ _ _ rfl (by simp) (ifeq_nil rfl rfl (ifeq_no rfl rfl (w_nest (ifeq_no rfl rfl (w_nest (ifeq_yes rfl rfl ?_))))))
    simp only [Od.v, sCons, sNil, sRet, sPut, sAugA, pVal, pLoc, pTup, pNil, pCons, pAttr, attrQ, putQ, augQ, retV, getF, putF, atMost, consV, consK, tupK, attrI_ins, attrK, putI_ins, seqK, retK, nextK, putK2, putK, augA4, augA3, augA2, augA1, List.getElem?_cons_succ, List.getElem?_cons_zero, Nat.reduceBEq, Hp.set_self, Hp.set_set, hw, at_449_1, at_449_2, at_449_4]
    have J := I.turn (c' := ⟨c.pc + 1, c.i, c.i :: c.m⟩)
    exact q1 ⟨c.pc + 1, c.i, c.i :: c.m⟩ [] rfl [] _ rfl (by simpa [stepL, wayO, markV] using J)
  | set =>
    refine head _ _ _ _ rfl (by simp) (ifeq_nil rfl rfl (ifeq_no rfl rfl (w_nest (ifeq_no rfl rfl (w_nest (ifeq_no rfl rfl (w_nest ?_)))))))
    simp only [Od.v, sCons, sIf, pVal, pLoc, pTup, pNil, pCons, pMeth, methQ, tCmp, tOfP, tNot, bIn, retV, getF, atMost, optQ_some, cmpV, cmpK, consV, consK, tupK, methI_ins, methK3, methK2, methK, ifK, strsOf, List.getElem?_cons_succ, List.getElem?_cons_zero, nb1, nb3, nb4, Nat.reduceBEq, Bool.and_true, Bool.and_false, List.contains_cons, List.contains_nil, Bool.or_false, Bool.or_true, Option.map_some, I.M, me_526_29, na_526_29]
    cases hm : c.m with
    | nil => exact absurd hm ho
    | cons b m =>
      refine (c_ended k hm hi I hL).2 fun H' J => ?_
      have hw' := (J.ws _ (.head _)).1
      dsimp only [wayO] at hw'
      simp only [sCons, sNil, sRet, sAugA, pVal, pLoc, attrQ, putQ, truthV, augQ, getF, putF, atMost, optQ_some, ofPK, notK, attrI_ins, putI_ins, seqK, retK, ifK, nextK, augA4, augA3, augA2, augA1, List.getElem?_cons_succ, List.getElem?_cons_zero, Nat.reduceBEq, Bool.not_true, hw', at_449_1]
      have J2 := J.turn (c' := ⟨c.pc + 1, c.i, m⟩)
      exact q1 ⟨c.pc + 1, c.i, m⟩ [] (by simp [stepN, hm]) [] _ rfl (by simpa [stepL, wayO, hm] using J2)
  | gain =>
    refine head _ _ _ _ rfl (by simp) (ifeq_nil rfl rfl (ifeq_no rfl rfl (w_nest (ifeq_no rfl rfl (w_nest (ifeq_no rfl rfl (w_nest ?_)))))))
    simp only [Od.v, sCons, sIf, pVal, pLoc, pTup, pNil, pCons, pMeth, methQ, tCmp, tOfP, tNot, bIn, retV, getF, atMost, optQ_some, cmpV, cmpK, consV, consK, tupK, methI_ins, methK3, methK2, methK, ifK, strsOf, List.getElem?_cons_succ, List.getElem?_cons_zero, nb2, nb3, nb4, Nat.reduceBEq, Bool.and_true, Bool.and_false, List.contains_cons, List.contains_nil, Bool.or_false, Bool.or_true, Option.map_some, I.M, me_526_29, na_526_29]
    cases hm : c.m with
    | nil => exact absurd hm ho
    | cons b m =>
      refine (c_ended k hm hi I hL).1 (fun h H' J => ?_) (fun h H' J => ?_)
      · have hw' := (J.ws _ (.head _)).1
        dsimp only [wayO] at hw'
        simp only [sCons, sNil, sRet, sAugA, pVal, pLoc, attrQ, putQ, truthV, augQ, getF, putF, atMost, optQ_some, ofPK, notK, attrI_ins, putI_ins, seqK, retK, ifK, nextK, augA4, augA3, augA2, augA1, List.getElem?_cons_succ, List.getElem?_cons_zero, Nat.reduceBEq, Bool.not_true, hw', at_449_1]
        have J2 := J.turn (c' := ⟨c.pc + 1, c.i, m⟩)
        exact q1 ⟨c.pc + 1, c.i, m⟩ [] (by simp [stepN, hm]; omega) [] _ rfl (by simpa [stepL, wayO, hm] using J2)
      · simp only [sCons, sRet, pVal, truthV, optQ_some, ofPK, notK, seqK, retK, ifK, Bool.not_false]
        exact q0 (by simp [stepN, hm]; omega) H' (by simpa [stepL] using J.sub (.cons _ (.refl _)))
  | fail =>
    refine head _ _ _ _ rfl (by simp) (ifeq_nil rfl rfl (ifeq_no rfl rfl (w_nest (ifeq_no rfl rfl (w_nest (ifeq_no rfl rfl (w_nest ?_)))))))
    simp only [Od.v, sCons, sRet, sIf, pVal, pLoc, pTup, pNil, pCons, pMeth, methQ, tCmp, bIn, bEq, retV, getF, atMost, optQ_some, cmpV, cmpK, consV, consK, tupK, methI_ins, methK3, methK2, methK, ifK, strsOf, List.getElem?_cons_succ, List.getElem?_cons_zero, nb1, nb2, nb3, nb4, Nat.reduceBEq, Bool.and_true, Bool.and_false, List.contains_cons, List.contains_nil, Bool.or_false, Option.map_some, I.M, me_526_30, na_526_30]
    exact (c_other k hi hn I).1 (q0 rfl H (by simpa [stepL] using I.sub sub))
  | done => exact ho.elim
theorem Od.word {c : Cfg} {od : Od} (h : stepOk c od) (r : Nat) : ∃ word rest, od.v r = .tup (.str word :: rest) ∧ (word == [100, 111, 110, 101]) = false ∧ (word == [97, 98, 111, 114, 116]) = false ∧ rest.length ≤ 10 := by
  induction od using Od.casesOn <;> first | exact h.elim | exact ⟨_, _, rfl, rfl, rfl, by simp⟩
/-- the machine's state in the loop -/
noncomputable def Stt (K : MK) (st : Nat) (L : List (List Nat)) (stack : List Cfg) (v : V) (H : Hp) : Prop := match stack with
  | [] => v = .none ∧ MI K st L [] [] H
  | c :: rest => ∃ w hs, v = .ref w ∧ hs.map (·.2) = rest.reverse ∧ MI K st L hs ((w, c) :: hs) H
theorem run_loop (k : KOk K) {P : List V → Hp → Prop} {Qm : QS} {b : Nat} (hP : ∀ ρ H, wst T_Match_run_1 B_Match_run_2 (CN (d + 5)) P Qm ρ H → P ρ H) {stack : List Cfg} {n : Nat} {L0 : List (List Nat)} (hx : Ex K.os K.s stack n L0) :
    ∀ (st : Nat) (L : List (List Nat)) (v x : V) (H : Hp), st + n ≤ 97000 → L.length ≤ st → Stt K st L stack v H →
    (∀ st' x H', st' ≤ st + n → MI K st' (L ++ L0) [] [] H' → P [.ref K.M, .ref K.o, .int b, .none, x, .un, .un, .un, .un, .un, .un] H') →
    P [.ref K.M, .ref K.o, .int b, v, x, .un, .un, .un, .un, .un, .un] H := by
  induction hx with
  | nil =>
    rintro st L v x H h1 h2 ⟨rfl, I⟩ q
    exact q st x H (by omega) (by simpa using I)
  | @cons c rest od n L0 a1 a2 a3 hx ih =>
    rintro st L v x H h1 h2 ⟨w, hs, rfl, e, I⟩ q
    refine hP _ _ ?_
    have hlen := hx.len
    simp only [List.length_append] at hlen
    have hl : hs.length = rest.length := by have := congrArg List.length e; simpa using this
    have hh := I.h
    dsimp only [hostO] at hh
    simp only [wst, T_Match_run_1, B_Match_run_2, sCons, sExp, pVal, pLoc, pNil, pAttr, attrQ, pMeth, methQ, tCmp, bIs, getF, optQ_some, cmpV, cmpK, attrI_ins, attrK, methI_ins, methK3, methK2, methK, List.getElem?_cons_succ, List.getElem?_cons_zero, Nat.reduceBEq, Bool.not_false, I.M, hh, at_526_7, me_589_33, na_589_33]
    refine c_step (K := K) I.h (by omega) fun v => ?_
    have J := I.tick
    have hw := (J.ws _ (.head _)).1
    have ho := J.o
    have hpc : c.pc < K.os.length := (List.getElem?_eq_some_iff.mp a1).1
    have e1 : (K.os.map (Od.v K.r))[c.pc]? = some (od.v K.r) := by simp [a1]
    dsimp only [wayO] at hw
    simp only [hw, ho, sCons, sAsg, pLoc, pOp2, pAttr, attrQ, bIdx, getF, op2V, op2K, attrI_ins, attrK, seqK, expK, List.getElem?_cons_succ, List.getElem?_cons_zero, Nat.reduceBEq, at_449_0, at_449_1, List.length_map, Int.toNat_natCast]
    rw [if_pos ⟨nn _, by have := k.os; omega⟩, e1]
    obtain ⟨word, rest', e2, n1, n2, n3⟩ := Od.word a3 K.r
    simp only [e2, sCons, sIf, pVal, pLoc, pOp2, tCmp, tAnd, bIdx, optQ_some, op2V, op2K, seqK, asgK, List.getElem?_cons_succ, List.getElem?_cons_zero, List.set_cons_succ, List.set_cons_zero, List.length_cons, Nat.reduceLeDiff, Int.reduceToNat, Int.le_refl, true_and]
    rw [if_pos (by omega)]
    simp only [n1, sCons, sNil, sIf, pVal, pLoc, pOp2, tCmp, bEq, bIdx, optQ_some, op2V, op2K, cmpV, cmpK, andK, seqK, ifK, List.getElem?_cons_succ, List.getElem?_cons_zero, List.length_cons, Nat.reduceLeDiff, Int.reduceToNat, Int.le_refl, true_and]
    rw [if_pos (by omega)]
    simp only [n2, sCons, sNil, sIf, pVal, pLoc, pNil, pCons, pMeth, methQ, tOfP, tNot, bEq, getF, optQ_some, cmpV, cmpK, consV, consK, methI_ins, methK3, methK2, methK, seqK, ifK, List.getElem?_cons_succ, List.getElem?_cons_zero, Nat.reduceBEq, J.M, me_526_27, na_526_27]
    rw [← e2]
    refine c_done k a3 a2 (by omega) (by omega) J (fun hN H' J' => ?_) (fun c' cs hN new H' hnew J' => ?_)
    · simp only [sCons, sAsg, pLoc, pNil, pMeth, methQ, truthV, getF, optQ_some, ofPK, notK, methI_ins, methK3, methK2, methK, ifK, List.getElem?_cons_zero, Nat.reduceBEq, Bool.not_false, J'.M, me_526_26, na_526_26]
      rw [hN, List.nil_append] at ih
      induction rest using List.casesOn with
      | nil =>
        have : hs = [] := by simpa using e
        subst this
        refine c_way_back0 J' ?_
        simp only [sCons, sNil, sIf, pVal, pLoc, tCmp, tAnd, bIs, optQ_some, cmpV, cmpK, andK, seqK, ifK, asgK, List.getElem?_cons_succ, List.getElem?_cons_zero, List.set_cons_succ, List.set_cons_zero]
        exact ih (st + 1) (L ++ stepL K.s c od) _ _ _ (by omega) (by simp only [List.length_append]; induction od using Od.casesOn <;> simp [stepL] <;> omega) ⟨rfl, J'⟩ (fun st' x H' h3 J2 => q st' x H' (by omega) (by simpa using J2))
      | cons c2 rest2 =>
        obtain ⟨hs2, p, rfl⟩ : ∃ hs2 p, hs = hs2 ++ [p] := by
          rcases List.eq_nil_or_concat hs with h | ⟨a, b, h⟩
          · subst h; simp at e
          · exact ⟨a, b, by simpa using h⟩
        obtain ⟨w2, c3⟩ := p
        have e3 : hs2.map (·.2) = rest2.reverse ∧ c3 = c2 := by
          simp only [List.map_append, List.map_cons, List.map_nil, List.reverse_cons] at e
          have := List.append_inj' e rfl
          exact ⟨this.1, by simpa using this.2⟩
        obtain ⟨e3, rfl⟩ := e3
        refine c_way_back k J' (by simp only [List.length_append, List.length_cons, List.length_nil] at hl hlen; omega) fun H2 J2 => ?_
        have J3 := J2.perm (l' := (w2, c3) :: hs2) (by simpa using (List.perm_append_comm (l₁ := [(w2, c3)]) (l₂ := hs2)))
        have hw2 := (J3.ws _ (.head _)).1
        dsimp only [wayO] at hw2
        simp only [sCons, sNil, sIf, pVal, pLoc, pAttr, attrQ, tCmp, tAnd, bIs, getF, optQ_some, cmpV, cmpK, andK, attrI_ins, attrK, seqK, ifK, asgK, List.getElem?_cons_succ, List.getElem?_cons_zero, List.set_cons_succ, List.set_cons_zero, Nat.reduceBEq, Bool.not_false, Bool.not_true, hw2, at_449_0]
        exact ih (st + 1) (L ++ stepL K.s c od) _ _ _ (by omega) (by simp only [List.length_append]; induction od using Od.casesOn <;> simp [stepL] <;> omega) ⟨w2, hs2, rfl, e3, J3⟩ (fun st' x H' h3 J2 => q st' x H' (by omega) (by simpa using J2))
    · simp only [sNil, truthV, optQ_some, ofPK, notK, seqK, ifK, Bool.not_true]
      refine ih (st + 1) (L ++ stepL K.s c od) _ _ _ (by omega) (by simp only [List.length_append]; induction od using Od.casesOn <;> simp [stepL] <;> omega) ?_ (fun st' x H' h3 J2 => q st' x H' (by omega) (by simpa using J2))
      rw [hN]
      exact ⟨w, hs ++ new, rfl, by simp [e, hnew], J'⟩
/-- a run that meets nothing -/
theorem c_run (k : KOk K) {n : Nat} {L0 : List (List Nat)} (hx : Ex K.os K.s [⟨0, 0, []⟩] n L0) (hn : n ≤ 97000) (I : MI K 0 [] [] [] H)
    (q : ∀ st H', MI K st L0 [] [] H' → Q (.tup [.int 1, .none]) H') : CN (d + 6) 474 [.ref K.M, .ref K.o, .int 0] H Q := by
  refine callF (P := P_Match_run) rfl rfl rfl ?_
  simp only [P_Match_run, sCons, sAsg, pVal, pLoc, pNil, pCons, pCall, retV, consV, consK, callK, List.getElem?_cons_succ, List.getElem?_cons_zero, List.replicate_succ, List.replicate_zero, List.cons_append, List.nil_append]
  refine callI (fI := 439) (P := P_Way_init) rfl rfl rfl fun w hw => ?_
  simp only [P_Way_init, sCons, sNil, sPut, pLoc, putQ, retV, putF, atMost, putI_ins, seqK, asgK, nextK, putK2, putK, List.getElem?_cons_succ, List.getElem?_cons_zero, List.set_cons_succ, List.set_cons_zero, List.replicate_zero, List.cons_append, List.nil_append, Nat.reduceBEq, true_and, Hp.set_self, Hp.set_set, at_449_0, at_449_1, at_449_2, at_449_3, at_449_4, at_449_5]
  refine w_while fun P hP => ?_
  have J := I.way hw ⟨0, 0, []⟩
  refine run_loop (b := 0) k hP hx 0 [] _ _ _ (by omega) (Nat.le_refl _) ⟨w, [], rfl, rfl, J⟩ fun st' x H' h1 J' => ?_
  refine hP _ _ ?_
  simp only [wst, T_Match_run_1, B_Match_run_2, sCons, sRet, sExp, pVal, pLoc, pTup, pNil, pCons, pAttr, attrQ, pMeth, tCmp, bIs, atMost, optQ_some, cmpV, cmpK, consV, consK, tupK, attrK, seqK, retK, List.getElem?_cons_succ, List.getElem?_cons_zero]
  exact q st' H' (by simpa using J')
end

section
variable {H : Hp} {d : Nat} {Q : QV}
/-- a match that meets nothing -/
theorem c_match_orders {s : List Nat} {h dv rf lg o r : Nat} {os : List Od} (hs : s.length ≤ 1000) (hos : os.length ≤ 1000) (hh : H h = some (hostO dv rf lg 0)) (hdv : H dv = some (.dic 0)) (hrf : H rf = some (.lst []))
    (hlg : H lg = some (.lst [])) (ho : H o = some (.lst (os.map (Od.v r)))) (hr : ∃ x y, H r = some (.ins 208 [(15, x), (16, y), (17, .str [86])])) (n1 : lg ≠ o) (n2 : lg ≠ rf)
    {n : Nat} {L0 : List (List Nat)} (hx : Ex os s [⟨0, 0, []⟩] n L0) (hn : n ≤ 97000)
    (q : ∀ st H', H' h = some (hostO dv rf lg st) → H' lg = some (.lst (L0.map entV)) → (∀ b, H b ≠ none → b ≠ h → b ≠ dv → b ≠ lg → H' b = H b) → Q .none H') : CN (d + 7) 544 [.ref o, .str s, .bool true, .ref h] H Q := by
  refine callF (P := P_match_orders) rfl rfl rfl ?_
  simp only [P_match_orders, sForR, rgQ, sCons, pVal, pLoc, pIf, tOfP, truthV, retV, optQ_some, ifPK, ofPK, List.getElem?_cons_succ, List.getElem?_cons_zero, List.replicate_succ, List.replicate_zero, List.cons_append, List.nil_append, Int.reduceSub, Int.reduceToNat]
  refine ⟨by decide, ?_⟩
  refine forR_cons fun Kf k1 k2 k3 => ?_
  simp only [B_match_orders_1, sCons, sTwo, pLoc, pNil, pCons, pCall, pMeth, consV, consK, callK, List.getElem?_cons_succ, List.getElem?_cons_zero, List.set_cons_succ, List.set_cons_zero]
  refine callI (fI := 467) (P := P_Match_init) rfl rfl rfl fun M hM => ?_
  simp only [P_Match_init, sCons, sPut, pLoc, pList, pNil, putQ, methQ, retV, putF, atMost, listK, putI_ins, methK, seqK, nextK, putK2, putK, List.getElem?_cons_succ, List.getElem?_cons_zero, List.replicate_zero, List.cons_append, List.nil_append, Nat.reduceBEq, Hp.set_self, Hp.set_set, at_526_6, at_526_7]
  intro hi hhi
  have ne : ∀ {b : Nat} {x : MO}, H b = some x → b ≠ M := fun e e' => by rw [e', hM] at e; cases e
  have hMi : M ≠ hi := fun e => by rw [e, Hp.set_self] at hhi; cases hhi
  have hhi0 : H hi = none := by rw [Hp.set_ne _ _ hMi.symm] at hhi; exact hhi
  have ne' : ∀ {b : Nat} {x : MO}, H b = some x → b ≠ hi := fun e e' => by rw [e', hhi0] at e; cases e
  simp only [Hp.set_ne _ _ hMi, sNil, pLoc, pNil, pCons, getF, putF, atMost, consV, consK, putI_ins, methI_ins, methK3, methK2, seqK, nextK, List.getElem?_cons_succ, List.getElem?_cons_zero, Nat.reduceBEq, true_and, Hp.set_self, at_526_8, me_526_25, na_526_25]
  obtain ⟨rx, ry, hr⟩ := hr
  let K : MK := ⟨s, M, h, hi, dv, rf, lg, o, r, os, H⟩
  have k : KOk K := ⟨hs, hos, (ne' hlg).symm, (ne' ho).symm, (ne' hrf).symm, n1, n2, hhi0, hM⟩
  have low : ∀ {b : Nat} {x y z w : MO}, H b = some x → (((H.set M y).set hi z).set M w) b = some x := fun e => by rw [Hp.set_ne _ _ (ne e), Hp.set_ne _ _ (ne' e), Hp.set_ne _ _ (ne e)]; exact e
  have I : MI K 0 [] [] [] (((H.set M (MO.ins 526 [(6, V.str s), (7, V.ref h)])).set hi (MO.lst [])).set M (MO.ins 526 [(6, V.str s), (7, V.ref h), (8, V.ref hi)])) := by
    refine ⟨Hp.set_self _ _ _, low hh, low hdv, low hrf, low hlg, low ho, ⟨rx, ry, low hr⟩, ?_, nofun, .nil, fun b h1 _ _ _ => ?_⟩
    · rw [Hp.set_ne _ _ hMi.symm, Hp.set_self]; rfl
    · cases e : H b with
      | none => exact absurd e h1
      | some x => exact (low e).trans e.symm
  refine c_run (K := K) (d := d) k hx hn I fun st H' I' => ?_
  simp only [sCons, sNil, sRet, sIf, pVal, pLoc, tCmp, bEq, two, optQ_some, cmpV, cmpK, seqK, retK, ifK, twoK2, twoK, List.getElem?_cons_succ, List.getElem?_cons_zero, List.set_cons_succ, List.set_cons_zero, Int.reduceBEq, k1, forR]
  refine q st H' I'.h I'.lg fun b h1 h2 h3 h4 => I'.fr b h1 h2 h3 h4
end


/-! the patterns -/
inductive Nd where
  | sg (g : Sg) | ways (b : Bool) | cat (x y : Nd) | alt (x y : Nd) | arbno (x : Nd) | now (x : Nd) | fail
noncomputable def Nd.kd : Nd → List Nat
  | .sg g => g.kind
  | .ways b => waysK b
  | .cat _ _ => [99, 97, 116]
  | .alt _ _ => [97, 108, 116]
  | .arbno _ => [97, 114, 98, 110, 111]
  | .now _ => [110, 111, 119]
  | .fail => [102, 97, 105, 108]
noncomputable def Nd.v (r : Nat) : Nd → V
  | .sg g => .tup [.str g.kind, g.told]
  | .ways b => .tup [.str (waysK b)]
  | .cat x y => .tup [.str [99, 97, 116], x.v r, y.v r]
  | .alt x y => .tup [.str [97, 108, 116], x.v r, y.v r]
  | .arbno x => .tup [.str [97, 114, 98, 110, 111], x.v r]
  | .now x => .tup [.str [110, 111, 119], x.v r, .ref r]
  | .fail => .tup [.str [102, 97, 105, 108]]
noncomputable def Sg.cl : Sg → Nat
  | .chars l => l.length
  | _ => 0
theorem lq_nd {g : Nd} {r : Nat} {Q : V → Prop} : pLoc.match_1 (fun _ => Prop) (some (g.v r)) (fun _ => False) (fun v => Q v) (fun _ => False) = Q (g.v r) := by induction g using Nd.casesOn <;> rfl
theorem Nd.v_head (r : Nat) (n : Nd) : ∃ rest, n.v r = .tup (.str n.kd :: rest) ∧ rest.length ≤ 2 := by
  induction n using Nd.casesOn <;> exact ⟨_, rfl, by simp⟩
/-- what its code may take -/
noncomputable def Nd.w : Nd → Nat
  | .sg g => 1 + g.cl
  | .ways _ => 1
  | .cat x y => x.w + y.w + 1
  | .alt x y => x.w + y.w + 5
  | .arbno x => x.w + 5
  | .now x => x.w + 2
  | .fail => 1
theorem Nd.w_pos (n : Nd) : 1 ≤ n.w := by
  induction n <;> simp only [Nd.w] <;> omega
noncomputable def wL (l : List Nd) : Nat := (l.map Nd.w).sum
theorem wL_cons (n : Nd) (l : List Nd) : wL (n :: l) = n.w + wL l := by simp [wL]
theorem wL_append (l l' : List Nd) : wL (l ++ l') = wL l + wL l' := by simp [wL]
theorem wL_len (l : List Nd) : l.length ≤ wL l := by
  induction l with
  | nil => exact Nat.le_refl _
  | cons n l ih => rw [wL_cons, List.length_cons]; have := n.w_pos; omega
noncomputable def kdS : Bool → List Nat
  | true => [99, 97, 116]
  | false => [97, 108, 116]
/-- the parts of a join (true) or a choice -/
noncomputable def rowK : Bool → Nd → List Nd
  | true, .cat x y => rowK true x ++ rowK true y
  | false, .alt x y => rowK false x ++ rowK false y
  | _, n => [n]
theorem rowK_yes {k : Bool} {n : Nd} (r : Nat) (h : (n.kd == kdS k) = true) : ∃ x y, n.v r = .tup [.str n.kd, x.v r, y.v r] ∧ rowK k n = rowK k x ++ rowK k y ∧ x.w + y.w + 1 ≤ n.w := by
  induction k using Bool.casesOn with
  | true => cases n with
    | cat x y => exact ⟨x, y, rfl, by simp [rowK], by simp only [Nd.w]; omega⟩
    | sg g => cases g <;> exact absurd h Bool.false_ne_true
    | ways b => induction b using Bool.casesOn <;> exact absurd h Bool.false_ne_true
    | _ => exact absurd h Bool.false_ne_true
  | false => cases n with
    | alt x y => exact ⟨x, y, rfl, by simp [rowK], by simp only [Nd.w]; omega⟩
    | sg g => cases g <;> exact absurd h Bool.false_ne_true
    | ways b => induction b using Bool.casesOn <;> exact absurd h Bool.false_ne_true
    | _ => exact absurd h Bool.false_ne_true
theorem rowK_no {k : Bool} {n : Nd} (h : (n.kd == kdS k) = false) : rowK k n = [n] := by
  induction k using Bool.casesOn with
  | true => induction n using Nd.casesOn with
    | cat x y => exact absurd h.symm Bool.false_ne_true
    | _ => simp [rowK]
  | false => induction n using Nd.casesOn with
    | alt x y => exact absurd h.symm Bool.false_ne_true
    | _ => simp [rowK]
theorem rowK_w (k : Bool) (n : Nd) : wL (rowK k n) ≤ n.w := by
  induction n with
  | cat x y hx hy => induction k using Bool.casesOn with
    | true => rw [show rowK true (.cat x y) = rowK true x ++ rowK true y by simp [rowK], wL_append]; simp only [Nd.w]; omega
    | false => simp [rowK, wL]
  | alt x y hx hy => induction k using Bool.casesOn with
    | false => rw [show rowK false (.alt x y) = rowK false x ++ rowK false y by simp [rowK], wL_append]; simp only [Nd.w]; omega
    | true => simp [rowK, wL]
  | _ => induction k using Bool.casesOn <;> simp [rowK, wL]

/-- only new things -/
noncomputable def Ext (H H' : Hp) : Prop := ∀ b, H b ≠ none → H' b = H b
theorem Ext.refl (H : Hp) : Ext H H := fun _ _ => rfl
theorem Ext.trans {H H' H'' : Hp} (h : Ext H H') (h' : Ext H' H'') : Ext H H'' := fun b hb => (h' b (by rw [h b hb]; exact hb)).trans (h b hb)
theorem Ext.set {H H' : Hp} (h : Ext H H') {a : Nat} (ha : H a = none) (x : MO) : Ext H (H'.set a x) := fun b hb => by
  rw [Hp.set_ne _ _ (fun e => hb (by rw [e]; exact ha))]; exact h b hb
theorem Ext.none {H H' : Hp} (h : Ext H H') {a : Nat} (ha : H' a = none) : H a = none := by
  cases e : H a with
  | none => rfl
  | some x => rw [h a (by rw [e]; nofun), e] at ha; cases ha
theorem ne_of {H : Hp} {a b : Nat} {x : MO} (h : H a = some x) (h' : H b = none) : a ≠ b := fun e => by rw [e, h'] at h; cases h

section
variable {H : Hp} {d : Nat} {Q : QV}
theorem c_row_of {k : Bool} {n : Nd} {r : Nat} (hw : n.w ≤ 1000) (q : ∀ a H', H a = none → H' a = some (.lst ((rowK k n).map (Nd.v r))) → Ext H H' → Q (.ref a) H') : CN (d + 1) 23 [n.v r, .str (kdS k)] H Q := by
  refine callF (P := P_row_of) rfl rfl rfl ?_
  simp only [P_row_of, lq_nd, sCons, sSwap, pLoc, pTup, pList, pNil, pCons, two, retV, atMost, consV, consK, tupK, listK, seqK, swapK2, swapK, List.getElem?_cons_zero, List.set_cons_succ, List.set_cons_zero, List.replicate_succ, List.replicate_zero, List.cons_append, List.nil_append]
  intro fa hfa
  intro wa hwa
  have n1 : fa ≠ wa := fun e => by rw [e, Hp.set_self] at hwa; cases hwa
  have hwa0 : H wa = none := by rw [Hp.set_ne _ _ n1.symm] at hwa; exact hwa
  refine w_while fun P hP => ?_
  have key : ∀ (f : Nat) (ws acc : List Nd) (x : V) (H' : Hp), wL ws ≤ f → wL ws + acc.length ≤ 1000 → H' fa = some (.lst (acc.map (Nd.v r))) → H' wa = some (.lst (ws.map (Nd.v r))) → Ext H H' →
      (∀ H', H' fa = some (.lst ((acc ++ ws.reverse.flatMap (rowK k)).map (Nd.v r))) → Ext H H' → Q (.ref fa) H') → P [n.v r, .str (kdS k), .ref fa, .ref wa, x, .un] H' := by
    intro f
    induction f with
    | zero =>
      intro ws acc x H' h1 h2 h3 h4 h5 q
      have : ws = [] := by have := wL_len ws; exact List.length_eq_zero_iff.mp (by omega)
      subst this
      refine hP _ _ ?_
      simp only [wst, T_row_of_1, B_row_of_2, sCons, sRet, sAsg, sIf, pVal, pLoc, pOp2, pNil, pCons, pBlt, bLen, lenV, pLm, isLst, onLst, bPop, tCmp, bLt, bIdx, optQ_some, op2V, op2K, cmpV, cmpK, consV, consK, bltK, isLstI_lst, lmK2, lmK, onLstI_lst, lenI_lst, seqK, retK, asgK, List.getElem?_cons_succ, List.getElem?_cons_zero, List.set_cons_succ, List.set_cons_zero, List.length_nil, Nat.zero_le, true_and, h4, List.map_nil]
      exact q H' (by simpa using h3) h5
    | succ f ih =>
      intro ws acc x H' h1 h2 h3 h4 h5 q
      refine hP _ _ ?_
      have wl := wL_len ws
      rcases List.eq_nil_or_concat ws with e | ⟨ws', m, e⟩
      · subst e
        simp only [wst, T_row_of_1, B_row_of_2, sCons, sRet, sAsg, sIf, pVal, pLoc, pOp2, pNil, pCons, pBlt, bLen, lenV, pLm, isLst, onLst, bPop, tCmp, bLt, bIdx, optQ_some, op2V, op2K, cmpV, cmpK, consV, consK, bltK, isLstI_lst, lmK2, lmK, onLstI_lst, lenI_lst, seqK, retK, asgK, List.getElem?_cons_succ, List.getElem?_cons_zero, List.set_cons_succ, List.set_cons_zero, List.length_nil, Nat.zero_le, true_and, h4, List.map_nil]
        exact q H' (by simpa using h3) h5
      · rw [List.concat_eq_append] at e
        subst e
        rw [wL_append, wL_cons] at h1 h2
        have wl' := wL_len ws'
        obtain ⟨rest, e1, e2⟩ := Nd.v_head r m
        simp only [wst, T_row_of_1, B_row_of_2, sCons, sRet, sAsg, sIf, pVal, pLoc, pOp2, pNil, pCons, pBlt, bLen, lenV, pLm, isLst, onLst, bPop, tCmp, bLt, bIdx, optQ_some, op2V, op2K, cmpV, cmpK, consV, consK, bltK, isLstI_lst, lmK2, lmK, onLstI_lst, lenI_lst, seqK, retK, asgK, List.getElem?_cons_succ, List.getElem?_cons_zero, List.set_cons_succ, List.set_cons_zero, List.length_cons, List.length_nil, Nat.reduceAdd, Nat.reduceLeDiff, h4, List.map_append, List.map_cons, List.map_nil, List.length_append, List.length_map]
        refine ⟨by omega, ?_⟩
        rw [decide_eq_true (by omega : ((ws'.length + (0 + 1) : Nat) : Int) > 0)]
        simp only [List.getLast?_append, List.getLast?_singleton, Option.some_or, List.dropLast_concat]
        refine ⟨by omega, ?_⟩
        cases hk : (m.kd == kdS k) with
        | true =>
          obtain ⟨y, z, e3, e4, e5⟩ := rowK_yes r hk
          simp only [e3, sCons, sNil, sExp, pVal, pLoc, pOp2, pList, pNil, pCons, pLm, isLst, onLst, bExtend, bEq, bIdx, atMost, optQ_some, op2V, op2K, cmpV, cmpK, consV, consK, listK, isLstI_lst, lmK2, lmK, onLstI_lst, seqK, expK, ifK, List.getElem?_cons_succ, List.getElem?_cons_zero, List.length_cons, List.length_nil, Nat.reduceAdd, Nat.reduceLeDiff, Int.reduceLE, Int.reduceToNat, Int.le_refl, true_and, and_true, Hp.set_self, reduceIte, hk]
          intro t ht
          have n2 : wa ≠ t := fun e => by rw [e, Hp.set_self] at ht; cases ht
          have ht0 : H' t = none := by rw [Hp.set_ne _ _ n2.symm] at ht; exact ht
          have n3 : fa ≠ t := ne_of h3 ht0
          simp only [onLstI_lst, Hp.set_self, Hp.set_ne _ _ n2, List.length_map]
          refine ⟨by omega, ?_⟩
          refine ih (ws' ++ [z, y]) acc _ _ ?_ ?_ ?_ ?_ ?_ ?_
          · rw [wL_append, wL_cons, wL_cons]; simp only [wL, List.map_nil, List.sum_nil] at *; omega
          · rw [wL_append, wL_cons, wL_cons]; simp only [wL, List.map_nil, List.sum_nil] at *; omega
          · rw [Hp.set_ne _ _ n1, Hp.set_ne _ _ n3, Hp.set_ne _ _ n1]; exact h3
          · rw [Hp.set_self]; simp
          · exact ((h5.set hwa0 _).set (h5.none ht0) _).set hwa0 _
          · intro H'' g1 g2
            refine q H'' ?_ g2
            simpa [e4] using g1
        | false =>
          simp only [e1, List.getElem?_cons_zero, List.length_cons, Nat.reduceLeDiff, Int.reduceToNat, Int.le_refl, true_and]
          rw [if_pos (by omega)]
          simp only [hk, sCons, sNil, sExp, pLoc, pNil, pCons, pLm, isLst, onLst, bAppend, bEq, optQ_some, cmpV, cmpK, consV, consK, isLstI_lst, lmK2, lmK, onLstI_lst, seqK, expK, ifK, List.getElem?_cons_succ, List.getElem?_cons_zero, Hp.set_ne _ _ n1, h3, List.length_map]
          refine ⟨by omega, ?_⟩
          refine ih ws' (acc ++ [m]) _ _ (by simp only [wL, List.map_nil, List.sum_nil] at *; have := m.w_pos; omega) (by simp only [wL, List.map_nil, List.sum_nil, List.length_append, List.length_cons, List.length_nil] at *; have := m.w_pos; omega) ?_ ?_ ?_ ?_
          · simp [e1, Hp.set_self]
          · rw [Hp.set_ne _ _ n1.symm, Hp.set_self]
          · exact (h5.set hwa0 _).set hfa _
          · intro H'' g1 g2
            refine q H'' ?_ g2
            simpa [rowK_no hk] using g1
  exact key (wL [n]) [n] [] _ _ (Nat.le_refl _) (by simp [wL]; omega) (by rw [Hp.set_ne _ _ n1, Hp.set_self]; rfl) (by rw [Hp.set_self]; rfl) (((Ext.refl H).set hfa _).set hwa0 _) fun H' g1 g2 => q fa H' hfa (by simpa using g1) g2
end

noncomputable def isCh : Nd → Option (List Nat)
  | .sg (.chars l) => some l
  | _ => none
noncomputable def joinStep (acc : List Nd) (p : Nd) : List Nd := match isCh p with
  | none => acc ++ [p]
  | some l => if l = [] then acc else match acc.getLast?.bind isCh with
    | some l0 => acc.dropLast ++ [.sg (.chars (l0 ++ l))]
    | none => acc ++ [p]
noncomputable def joinL (ps : List Nd) : List Nd := ps.foldl joinStep []
theorem isCh_some {p : Nd} {l : List Nat} (h : isCh p = some l) : p = .sg (.chars l) := by
  unfold isCh at h
  split at h
  · obtain rfl := Option.some.inj h; rfl
  · cases h
theorem isCh_kd {p : Nd} (h : isCh p = none) : (p.kd == [99, 104, 97, 114, 115]) = false := by
  induction p using Nd.casesOn with
  | sg g => induction g using Sg.casesOn <;> first | rfl | cases h
  | ways b => induction b using Bool.casesOn <;> rfl
  | _ => rfl
theorem joinStep_w (acc : List Nd) (p : Nd) : wL (joinStep acc p) ≤ wL acc + p.w := by
  unfold joinStep
  split
  · rw [wL_append]; simp [wL]
  · rename_i l h
    have := isCh_some h
    subst this
    split
    · omega
    · split
      · rename_i l0 h0
        obtain ⟨q, h1, h2⟩ := Option.bind_eq_some_iff.mp h0
        have := isCh_some h2
        subst this
        have e : acc = acc.dropLast ++ [.sg (.chars l0)] := by
          rw [List.getLast?_eq_some_iff] at h1
          obtain ⟨ys, rfl⟩ := h1
          simp
        rw [wL_append]
        have e2 : wL acc = wL acc.dropLast + wL [Nd.sg (.chars l0)] := by rw [← wL_append, ← e]
        rw [e2]
        simp only [wL, List.map_cons, List.map_nil, List.sum_cons, List.sum_nil, Nd.w, Sg.cl, List.length_append]
        omega
      · rw [wL_append]; simp [wL]
theorem joinL_w (ps : List Nd) : wL (joinL ps) ≤ wL ps := by
  have : ∀ (ps acc : List Nd), wL (ps.foldl joinStep acc) ≤ wL acc + wL ps := by
    intro ps
    induction ps with
    | nil => intro acc; simp [wL]
    | cons p ps ih =>
      intro acc
      rw [List.foldl_cons, wL_cons]
      have := ih (joinStep acc p)
      have := joinStep_w acc p
      omega
  have := this ps []
  simpa [joinL, wL] using this
section
variable {H : Hp} {d : Nat} {Q : QV}
theorem c_is_plain {n : Nd} {r : Nat} (q : Q (.bool (isCh n).isSome) H) : CN (d + 1) 30 [n.v r] H Q := by
  refine callF (P := P_is_plain_text) rfl rfl rfl ?_
  cases h : isCh n with
  | none =>
    rw [h] at q
    obtain ⟨rest, e1, e2⟩ := Nd.v_head r n
    have e3 := isCh_kd h
    simp only [P_is_plain_text, e1, sCons, sRet, pVal, pLoc, pOp2, pAndV, pOfT, tCmp, bIdx, pIsi, retV, op2V, op2K, seqK, retK, List.getElem?_cons_succ, List.getElem?_cons_zero, List.replicate_succ, List.replicate_zero, List.cons_append, List.nil_append, List.length_cons, Nat.reduceLeDiff, Int.reduceLE, Int.reduceToNat, Int.le_refl, true_and]
    rw [if_pos (by omega), if_pos (by omega)]
    simp only [e3, pVal, bEq, optQ_some, cmpV, cmpK, ofTK]
    exact q
  | some l =>
    rw [h] at q
    have := isCh_some h
    subst this
    simp only [P_is_plain_text, Nd.v, Sg.kind, Sg.told, bIsiStr, sCons, sRet, pVal, pLoc, pOp2, pAndV, pOfT, tCmp, bEq, bIdx, pIsi, retV, optQ_some, op2V, op2K, cmpV, cmpK, ofTK, seqK, retK, List.getElem?_cons_succ, List.getElem?_cons_zero, List.replicate_succ, List.replicate_zero, List.cons_append, List.nil_append, List.length_cons, List.length_nil, nb3, nb4, Nat.reduceBEq, Nat.reduceAdd, Nat.reduceLeDiff, Int.reduceLE, Int.reduceToNat, Int.le_refl, Bool.and_true, and_true, reduceIte]
    exact q
theorem c_joined {ps : List Nd} {p r : Nat} (hp : H p = some (.lst (ps.map (Nd.v r)))) (hw : wL ps ≤ 1000) (q : ∀ a H', H a = none → H' a = some (.lst ((joinL ps).map (Nd.v r))) → Ext H H' → Q (.ref a) H') : CN (d + 2) 37 [.ref p] H Q := by
  refine callF (P := P_with_texts_joined) rfl rfl rfl ?_
  simp only [P_with_texts_joined, sFor, sCons, sAsg, pLoc, pList, pNil, retV, atMost, listK, seqK, asgK, onList, List.getElem?_cons_zero, List.set_cons_succ, List.set_cons_zero, List.replicate_succ, List.replicate_zero, List.cons_append, List.nil_append]
  intro a ha
  have npa : p ≠ a := ne_of hp ha
  simp only [Hp.set_ne _ _ npa, hp]
  have key : ∀ (Qm : QS) (rest acc : List Nd) (x : V) (H' : Hp), wL acc + wL rest ≤ 1000 → H' a = some (.lst (acc.map (Nd.v r))) → Ext H H' →
      (∀ x H', H' a = some (.lst ((rest.foldl joinStep acc).map (Nd.v r))) → Ext H H' → Qm .next [.ref p, .ref a, x, .un, .un] H') →
      forL p (ps.map (Nd.v r)) 2 B_with_texts_joined_1 (rest.map (Nd.v r)) (CN (d + 1)) [.ref p, .ref a, x, .un, .un] H' Qm := by
    intro Qm rest
    induction rest with
    | nil =>
      intro acc x H' h1 h2 h3 q
      exact ⟨by rw [h3 p (by rw [hp]; nofun)]; exact hp, q x H' h2 h3⟩
    | cons m rest ih =>
      intro acc x H' h1 h2 h3 q
      rw [wL_cons] at h1
      have wa := wL_len acc
      have sw := joinStep_w acc m
      refine forL_cons (by rw [h3 p (by rw [hp]; nofun)]; exact hp) fun Kf k1 k2 _ => ?_
      simp only [B_with_texts_joined_1, lq_nd, sCons, sIf, pLoc, pNil, pCons, pCall, tOfP, consV, consK, callK, List.getElem?_cons_succ, List.getElem?_cons_zero, List.set_cons_succ, List.set_cons_zero]
      refine c_is_plain ?_
      have app : isCh m = none ∨ (∃ l, isCh m = some l ∧ l ≠ [] ∧ acc.getLast?.bind isCh = none) → Kf .next [.ref p, .ref a, m.v r, .un, .un] (H'.set a (.lst (acc.map (Nd.v r) ++ [m.v r]))) := by
        intro h
        have ej : joinStep acc m = acc ++ [m] := by
          unfold joinStep
          rcases h with h | ⟨l, e1, e2, e3⟩
          · rw [h]
          · rw [e1]; dsimp only; rw [if_neg e2, e3]
        rw [k1]
        refine ih (acc ++ [m]) _ _ (by rw [← ej]; omega) (by rw [Hp.set_self]; simp) (h3.set ha _) fun x H' g1 g2 => q x H' ?_ g2
        rw [List.foldl_cons, ej]; exact g1
      cases hc : isCh m with
      | none =>
        simp only [Option.isSome_none, lq_nd, sCons, sNil, sExp, pLoc, pNil, pCons, pLm, isLst, onLst, bAppend, truthV, optQ_some, ofPK, consV, consK, isLstI_lst, lmK2, lmK, onLstI_lst, seqK, expK, ifK, List.getElem?_cons_succ, List.getElem?_cons_zero, h2, List.length_map]
        exact ⟨by omega, app (.inl hc)⟩
      | some l =>
        have := isCh_some hc
        subst this
        simp only [Option.isSome_some, Nd.v, Sg.told, Sg.kind, sCons, sNil, sExp, sIf, sCont, pVal, pLoc, pOp2, pNil, pCons, pCall, pBlt, bLen, lenV, pLm, isLst, onLst, bAppend, tCmp, tOfP, truthV, tAnd, bLt, bEq, bAr, bIdx, optQ_some, op2V, op2K, cmpV, cmpK, ofPK, andK, consV, consK, bltK, lmK2, lmK, seqK, expK, ifK, List.getElem?_cons_succ, List.getElem?_cons_zero, List.length_cons, List.length_nil, Nat.reduceAdd, Nat.reduceLeDiff, Int.reduceLE, Int.reduceToNat, and_true, reduceIte]
        by_cases hl : l = []
        · subst hl
          simp only [nb3, k2]
          have ej : joinStep acc (.sg (.chars [])) = acc := by unfold joinStep; rw [hc]; rfl
          refine ih acc _ _ (by omega) h2 h3 fun x H' g1 g2 => q x H' ?_ g2
          rw [List.foldl_cons, ej]; exact g1
        · rw [beq_eq_false_iff_ne.mpr hl]
          simp only [isLstI_lst, onLstI_lst, lenI_lst, h2, List.length_map]
          refine ⟨by omega, ?_⟩
          rcases List.eq_nil_or_concat acc with e | ⟨acc', m, e⟩
          · subst e
            rw [decide_eq_false (by simp : ¬ (([] : List Nd).length : Int) > 0)]
            exact ⟨by omega, app (.inr ⟨l, hc, hl, rfl⟩)⟩
          · rw [List.concat_eq_append] at e
            subst e
            rw [decide_eq_true (by simp only [List.length_append, List.length_cons, List.length_nil]; omega : ((acc' ++ [m]).length : Int) > 0)]
            refine ⟨by omega, ?_⟩
            rw [if_pos ⟨by simp only [List.length_append, List.length_cons, List.length_nil]; omega, by omega⟩]
            have e1 : (((acc' ++ [m]).length : Int) - 1).toNat = acc'.length := by simp only [List.length_append, List.length_cons, List.length_nil]; omega
            have e2 : ((acc' ++ [m]).map (Nd.v r))[acc'.length]? = some (m.v r) := by simp
            rw [e1, e2]
            refine c_is_plain ?_
            cases hm : isCh m with
            | none =>
              simp only [Option.isSome_none, sCons, sNil, sExp, pLoc, pNil, pCons, pLm, isLst, onLst, bAppend, truthV, optQ_some, ofPK, consV, consK, isLstI_lst, lmK2, lmK, onLstI_lst, seqK, expK, ifK, List.getElem?_cons_succ, List.getElem?_cons_zero, h2, List.length_map]
              exact ⟨by omega, app (.inr ⟨l, hc, hl, by simp [hm]⟩)⟩
            | some l0 =>
              have := isCh_some hm
              subst this
              have hl0 : l0.length ≤ 1000 ∧ l.length ≤ 1000 := by
                rw [wL_append] at h1
                simp only [wL, List.map_cons, List.map_nil, List.sum_cons, List.sum_nil, Nd.w, Sg.cl] at h1
                omega
              simp only [Option.isSome_some, h2, List.map_append, List.map_cons, List.map_nil, List.getLast?_append, List.getLast?_singleton, Option.some_or, List.dropLast_concat, Nd.v, Sg.told, Sg.kind, sCons, sAsg, pVal, pLoc, pOp2, pTup, pNil, pCons, pLm, isLst, onLst, bPop, truthV, bAr, bIdx, optQ_some, op2V, op2K, ofPK, consK, isLstI_lst, lmK2, lmK, onLstI_lst, ifK, List.getElem?_cons_succ, List.getElem?_cons_zero, List.length_cons, List.length_nil, Nat.reduceAdd, Nat.reduceLeDiff, Int.reduceLE, Int.reduceToNat, and_true, reduceIte, List.length_append, List.length_map]
              simp only [List.length_append, List.length_cons, List.length_nil] at wa
              refine ⟨by omega, ?_⟩
              rw [if_pos (by omega)]
              simp only [sCons, sNil, sExp, pLoc, pNil, pCons, pLm, isLst, onLst, bAppend, atMost, optQ_some, consV, consK, tupK, isLstI_lst, lmK2, lmK, onLstI_lst, seqK, expK, asgK, List.getElem?_cons_succ, List.getElem?_cons_zero, List.set_cons_succ, List.set_cons_zero, Hp.set_self, Hp.set_set, List.length_map]
              refine ⟨by omega, ?_⟩
              rw [k1]
              have ej : joinStep (acc' ++ [.sg (.chars l0)]) (.sg (.chars l)) = acc' ++ [.sg (.chars (l0 ++ l))] := by
                unfold joinStep
                rw [hc]
                dsimp only
                rw [if_neg hl]
                simp [hm]
              refine ih (acc' ++ [.sg (.chars (l0 ++ l))]) _ _ (by rw [← ej]; omega) (by rw [Hp.set_self]; simp [Nd.v, Sg.told, Sg.kind]) (h3.set ha _) fun x H' g1 g2 => q x H' ?_ g2
              rw [List.foldl_cons, ej]; exact g1
  exact key _ ps [] _ _ (by simpa [wL] using hw) (by rw [Hp.set_self]; rfl) ((Ext.refl H).set ha _) fun x H' g1 g2 => q a H' ha g1 g2
end

theorem lq_any {v : V} (h : v ≠ .un) {Q : V → Prop} : pLoc.match_1 (fun _ => Prop) (some v) (fun _ => False) (fun v => Q v) (fun _ => False) = Q v := by
  induction v using V.casesOn <;> first | rfl | exact absurd rfl h
noncomputable def ov (r : Nat) : Option Od → V
  | none => .none
  | some od => od.v r
noncomputable def Exc (A : List Nat) (H H' : Hp) : Prop := ∀ b, H b ≠ none → b ∉ A → H' b = H b
theorem Exc.refl (A : List Nat) (H : Hp) : Exc A H H := fun _ _ _ => rfl
theorem Exc.trans {A : List Nat} {H H' H'' : Hp} (h : Exc A H H') (h' : Exc A H' H'') : Exc A H H'' := fun b hb ha => (h' b (by rw [h b hb ha]; exact hb) ha).trans (h b hb ha)
theorem Exc.mono {A B : List Nat} {H H' : Hp} (h : Exc A H H') (hs : ∀ a ∈ A, a ∈ B) : Exc B H H' := fun b hb hB => h b hb fun z => hB (hs _ z)
theorem Exc.set {A : List Nat} {H H' : Hp} (h : Exc A H H') {a : Nat} (ha : a ∈ A ∨ H a = none) (x : MO) : Exc A H (H'.set a x) := fun b hb hA => by
  rw [Hp.set_ne _ _ (fun e => by subst e; exact ha.elim hA hb)]; exact h b hb hA
theorem Ext.exc {A : List Nat} {H H' : Hp} (h : Ext H H') : Exc A H H' := fun b hb _ => h b hb
section
variable {H : Hp} {d : Nat} {Q : QV} {co ol r : Nat}
noncomputable abbrev codeO (ol : Nat) : MO := .ins 94 [(0, .ref ol)]
theorem c_emit {v : V} {os : List V} (hv : v ≠ .un) (hco : H co = some (codeO ol)) (hol : H ol = some (.lst os)) (hl : os.length ≤ 90000) (q : Q (.int os.length) (H.set ol (.lst (os ++ [v])))) : CN (d + 1) 58 [.ref co, v] H Q := by
  refine callF (P := P_PatternCode_emit) rfl rfl rfl ?_
  have n1 : co ≠ ol := fun e => by rw [e, hol] at hco; cases hco
  simp only [P_PatternCode_emit, codeO, sCons, sRet, sExp, pVal, pLoc, pOp2, pNil, pCons, pAttr, attrQ, pBlt, bLen, lenV, pLm, isLst, onLst, bAppend, bAr, retV, getF, optQ_some, op2V, op2K, consV, consK, attrI_ins, attrK, bltK, isLstI_lst, lmK2, lmK, onLstI_lst, lenI_lst, seqK, retK, expK, List.getElem?_cons_succ, List.getElem?_cons_zero, List.replicate_succ, List.replicate_zero, List.cons_append, List.nil_append, List.length_cons, List.length_nil, Nat.reduceBEq, Nat.reduceAdd, Nat.reduceLeDiff, Hp.set_self, hco, hol, Hp.set_ne _ _ n1, at_94_0, List.length_append]
  refine ⟨by omega, by omega, ?_⟩
  have e : ((os.length + (0 + 1) : Nat) : Int) - 1 = os.length := by omega
  rw [e]
  exact q
theorem c_bound_open {e e2 : Nat} {x : V} {os : List V} (hco : H co = some (codeO ol)) (hol : H ol = some (.lst os)) (hl : os.length ≤ 90000) (he : H e = some (.lst [x, .ref e2])) (ne : e ≠ ol)
    (q : Q .none ((H.set ol (.lst (os ++ [.none]))).set e (.lst [.int os.length, .ref e2]))) : CN (d + 2) 91 [.ref co, .str [111, 112, 101, 110], .ref e] H Q := by
  refine callF (P := P_PatternCode_bound) rfl rfl rfl ?_
  simp only [P_PatternCode_bound, codeO, sCons, sIf, sSet, pVal, pLoc, pNil, pCons, pMeth, methQ, tCmp, bEq, retV, getF, optQ_some, cmpV, cmpK, consV, consK, methI_ins, methK3, methK2, methK, ifK, List.getElem?_cons_succ, List.getElem?_cons_zero, List.replicate_succ, List.replicate_zero, List.cons_append, List.nil_append, nb3, nb4, Nat.reduceBEq, Bool.and_true, hco, me_94_18, na_94_18]
  refine c_emit nofun hco hol hl ?_
  simp only [sNil, pVal, pLoc, seqK, nextK, setK3, setK2, setK, setQ, List.getElem?_cons_succ, List.getElem?_cons_zero, List.set_cons_zero, List.length_cons, List.length_nil, Nat.reduceAdd, Nat.reduceLeDiff, Int.reduceToNat, Int.le_refl, true_and, Hp.set_ne _ _ ne, he]
  exact ⟨by omega, q⟩
theorem c_bound_shut {e e2 p : Nat} {os js : List V} (hco : H co = some (codeO ol)) (hol : H ol = some (.lst os)) (hl : os.length ≤ 90000) (hj : js.length ≤ 90000) (he : H e = some (.lst [.int p, .ref e2])) (he2 : H e2 = some (.lst js)) (ne : e ≠ ol) (ne2 : e2 ≠ ol) (ne3 : e2 ≠ e)
    (hp : p < os.length) (q : Q .none (((H.set ol (.lst (os ++ [.none]))).set e2 (.lst (js ++ [.int os.length]))).set ol (.lst ((os ++ [V.none]).set p (.tup [.str [115, 112, 108, 105, 116], .int (os.length + 1 : Nat)]))))) : CN (d + 2) 91 [.ref co, .str [115, 104, 117, 116], .ref e] H Q := by
  refine callF (P := P_PatternCode_bound) rfl rfl rfl ?_
  have n1 : co ≠ ol := fun e => by rw [e, hol] at hco; cases hco
  have n2 : co ≠ e2 := fun e => by rw [e, he2] at hco; cases hco
  simp only [P_PatternCode_bound, codeO, sCons, sExp, sIf, pVal, pLoc, pOp2, pNil, pCons, pMeth, methQ, pLm, isLst, tCmp, bEq, bIdx, retV, getF, optQ_some, op2V, op2K, cmpV, cmpK, consV, consK, methI_ins, methK3, methK2, methK, isLstI_lst, lmK, ifK, List.getElem?_cons_succ, List.getElem?_cons_zero, List.replicate_succ, List.replicate_zero, List.cons_append, List.nil_append, List.length_cons, List.length_nil, nb3, nb4, Nat.reduceBEq, Nat.reduceAdd, Nat.reduceLeDiff, Int.reduceLE, Int.reduceToNat, Bool.and_true, Bool.and_false, and_true, reduceIte, hco, he, he2, me_94_18, na_94_18]
  refine c_emit nofun hco hol hl ?_
  simp only [codeO, sCons, sNil, sSet, pVal, pLoc, pOp2, pTup, pNil, pCons, pAttr, attrQ, pBlt, bLen, lenV, onLst, bAppend, bIdx, getF, atMost, optQ_some, op2V, op2K, consV, consK, tupK, attrI_ins, attrK, bltK, lmK2, onLstI_lst, lenI_lst, seqK, expK, nextK, setK3, setK2, setK, setQ, List.getElem?_cons_succ, List.getElem?_cons_zero, List.length_cons, List.length_nil, Nat.reduceBEq, Nat.reduceAdd, Nat.reduceLeDiff, Int.reduceToNat, Int.le_refl, and_true, Hp.set_self, reduceIte, Hp.set_ne _ _ n1, Hp.set_ne _ _ n2, Hp.set_ne _ _ ne, Hp.set_ne _ _ ne2, Hp.set_ne _ _ ne2.symm, Hp.set_ne _ _ ne3.symm, hco, he, he2, at_94_0, List.length_append]
  refine ⟨by omega, by omega, by omega, by omega, by omega, ?_⟩
  rw [Int.toNat_natCast]
  exact q
noncomputable def meetL (E : V) (js : List Nat) (os : List V) : List V := js.foldl (fun os j => os.set j E) os
theorem c_bound_meet {e e2 : Nat} {x : V} {os : List V} {js : List Nat} (hco : H co = some (codeO ol)) (hol : H ol = some (.lst os)) (hl : os.length ≤ 90000) (he : H e = some (.lst [x, .ref e2])) (he2 : H e2 = some (.lst (intsV js))) (ne2 : e2 ≠ ol)
    (hj : ∀ j ∈ js, j < os.length) (q : ∀ H', H' ol = some (.lst (meetL (.tup [.str [106, 117, 109, 112], .int os.length]) js os)) → Exc [ol] H H' → Q .none H') : CN (d + 2) 91 [.ref co, .str [109, 101, 101, 116], .ref e] H Q := by
  refine callF (P := P_PatternCode_bound) rfl rfl rfl ?_
  have n1 : co ≠ ol := fun e => by rw [e, hol] at hco; cases hco
  simp only [P_PatternCode_bound, sFor, sCons, sIf, pVal, pLoc, pOp2, tCmp, bEq, bIdx, retV, optQ_some, op2V, op2K, cmpV, cmpK, ifK, onList, List.getElem?_cons_succ, List.getElem?_cons_zero, List.replicate_succ, List.replicate_zero, List.cons_append, List.nil_append, List.length_cons, List.length_nil, nb3, nb4, Nat.reduceBEq, Nat.reduceAdd, Nat.reduceLeDiff, Int.reduceLE, Int.reduceToNat, Bool.and_true, Bool.and_false, and_true, reduceIte, he, he2]
  have key : ∀ (Qm : QS) (rest : List Nat) (os' : List V) (y : V) (H' : Hp), (∀ j ∈ rest, j < os.length) → os'.length = os.length → H' ol = some (.lst os') → Exc [ol] H H' →
      (∀ y H', H' ol = some (.lst (meetL (.tup [.str [106, 117, 109, 112], .int os.length]) rest os')) → Exc [ol] H H' → Qm .next [.ref co, .str [109, 101, 101, 116], .ref e, y, .un, .un, .un, .un, .un] H') →
      forL e2 (intsV js) 3 B_PatternCode_bound_1 (intsV rest) (CN (d + 1)) [.ref co, .str [109, 101, 101, 116], .ref e, y, .un, .un, .un, .un, .un] H' Qm := by
    intro Qm rest
    induction rest with
    | nil =>
      intro os' y H' h1 h2 h3 h4 q
      exact ⟨by rw [h4 e2 (by rw [he2]; nofun) (by simpa using ne2)]; exact he2, q y H' h3 h4⟩
    | cons j rest ih =>
      intro os' y H' h1 h2 h3 h4 q
      have hco' : H' co = some (codeO ol) := by rw [h4 co (by rw [hco]; nofun) (by simpa using n1)]; exact hco
      refine forL_cons (by rw [h4 e2 (by rw [he2]; nofun) (by simpa using ne2)]; exact he2) fun Kf k1 _ _ => ?_
      have := h1 j (.head _)
      simp only [B_PatternCode_bound_1, codeO, sCons, sNil, sSet, pVal, pLoc, pTup, pNil, pCons, pAttr, attrQ, pBlt, bLen, lenV, getF, atMost, consV, consK, tupK, attrI_ins, attrK, bltK, lenI_lst, seqK, nextK, setK3, setK2, setK, setQ, List.getElem?_cons_succ, List.getElem?_cons_zero, List.set_cons_succ, List.set_cons_zero, Nat.reduceBEq, hco', h3, at_94_0, Int.toNat_natCast]
      refine ⟨by omega, by omega, by omega, by omega, ?_⟩
      rw [k1]
      refine ih (os'.set j (.tup [.str [106, 117, 109, 112], .int os.length])) _ _ (fun j hj => h1 j (.tail _ hj)) (by simpa using h2) (by rw [Hp.set_self, h2]) (h4.set (.inl (by simp)) _) fun y H' g1 g2 => q y H' g1 g2
  exact key _ js os _ H hj rfl hol (Exc.refl _ _) fun y H' g1 g2 => q H' g1 g2
end

noncomputable abbrev wPut (r : Nat) (n : Nd) : V := .tup [.str [112, 117, 116], n.v r]
noncomputable abbrev wEmit (r : Nat) (od : Od) : V := .tup [.str [101, 109, 105, 116], od.v r]
noncomputable abbrev wOpen (e : Nat) : V := .tup [.str [111, 112, 101, 110], .ref e]
noncomputable abbrev wShut (e : Nat) : V := .tup [.str [115, 104, 117, 116], .ref e]
noncomputable abbrev wMeet (e : Nat) : V := .tup [.str [109, 101, 101, 116], .ref e]
noncomputable def altI (r e : Nat) : List Nd → List V
  | [] => []
  | [n] => [wPut r n]
  | n :: ns => wOpen e :: wPut r n :: wShut e :: altI r e ns
theorem none_set {H : Hp} {a b : Nat} {x : MO} (h : (H.set a x) b = none) : b ≠ a ∧ H b = none := by
  by_cases e : b = a
  · rw [e, Hp.set_self] at h; cases h
  · rw [Hp.set_ne _ _ e] at h; exact ⟨e, h⟩
section
variable {H : Hp} {d : Nat} {Q : QV} {co ol r : Nat}
theorem c_repeat {n : Nd} {os : List V} (hco : H co = some (codeO ol)) (hol : H ol = some (.lst os)) (hl : os.length ≤ 80000)
    (q : ∀ a e e2 H', H a = none → H e = none → H e2 = none → e ≠ e2 → H' a = some (.lst [wPut r n, wEmit r .gain, wEmit r (.jump os.length), wMeet e]) → H' e = some (.lst [.int os.length, .ref e2]) → H' e2 = some (.lst [.int (os.length + 1 : Nat)]) →
      H' ol = some (.lst (os ++ [(Od.split (os.length + 2)).v r, .none, Od.mark.v r])) → Exc [ol] H H' → Q (.ref a) H') : CN (d + 2) 84 [.ref co, n.v r] H Q := by
  refine callF (P := P_PatternCode_repeat) rfl rfl rfl ?_
  have n1 : co ≠ ol := fun e => by rw [e, hol] at hco; cases hco
  simp only [P_PatternCode_repeat, codeO, sCons, sAsg, pVal, pLoc, pNil, pCons, pMeth, methQ, retV, getF, consV, consK, methI_ins, methK3, methK2, methK, List.getElem?_cons_zero, List.replicate_succ, List.replicate_zero, List.cons_append, List.nil_append, Nat.reduceBEq, hco, me_94_18, na_94_18]
  refine c_emit (v := .none) nofun hco hol (by omega) ?_
  simp only [sCons, sAsg, pVal, pLoc, pNil, pCons, pMeth, methQ, getF, consV, consK, methI_ins, methK3, methK2, methK, seqK, asgK, List.getElem?_cons_zero, List.set_cons_succ, List.set_cons_zero, Nat.reduceBEq, Hp.set_ne _ _ n1, hco, codeO, me_94_18, na_94_18]
  refine c_emit (v := .none) (ol := ol) (os := os ++ [.none]) nofun (by rw [Hp.set_ne _ _ n1]; exact hco) (Hp.set_self _ _ _) (by simp; omega) ?_
  simp only [codeO, sCons, sExp, sSet, pVal, pLoc, pTup, pNil, pCons, pAttr, attrQ, pBlt, bLen, lenV, pMeth, methQ, getF, atMost, consV, consK, tupK, attrI_ins, attrK, bltK, methI_ins, methK3, methK2, methK, lenI_lst, seqK, asgK, nextK, setK3, setK2, setK, setQ, List.getElem?_cons_succ, List.getElem?_cons_zero, List.set_cons_succ, List.set_cons_zero, List.length_cons, List.length_nil, Nat.reduceBEq, Nat.reduceAdd, Nat.reduceLeDiff, Hp.set_self, Hp.set_set, Hp.set_ne _ _ n1, hco, at_94_0, me_94_18, na_94_18, List.length_append, Int.toNat_natCast]
  refine ⟨by omega, by omega, by omega, by omega, ?_⟩
  refine c_emit (ol := ol) (os := (os ++ [V.none] ++ [V.none]).set os.length (.tup [.str [115, 112, 108, 105, 116], .int (os.length + (0 + 1) + (0 + 1) : Nat)])) nofun (by rw [Hp.set_ne _ _ n1]; exact hco) (Hp.set_self _ _ _) (by simp; omega) ?_
  simp only [sCons, sRet, pVal, pLoc, pTup, pList, pNil, pCons, atMost, consV, consK, tupK, listK, seqK, retK, expK, List.getElem?_cons_succ, List.getElem?_cons_zero, Nat.reduceAdd, Hp.set_set, lq_nd]
  intro e2 h2 e he a ha
  obtain ⟨g1, g2⟩ := none_set h2
  obtain ⟨g3, g4⟩ := none_set he
  obtain ⟨g5, g6⟩ := none_set g4
  obtain ⟨g7, g8⟩ := none_set ha
  obtain ⟨g9, g10⟩ := none_set g8
  obtain ⟨g11, g12⟩ := none_set g10
  refine q a e e2 _ g12 g6 g2 g3 (Hp.set_self _ _ _) ?_ ?_ ?_ ?_
  · rw [Hp.set_ne _ _ g7.symm, Hp.set_self]
  · rw [Hp.set_ne _ _ g9.symm, Hp.set_ne _ _ g3.symm, Hp.set_self]
  · rw [Hp.set_ne _ _ g11.symm, Hp.set_ne _ _ g5.symm, Hp.set_ne _ _ g1.symm, Hp.set_self]
    simp [Od.v]; omega
  · exact ((((Exc.refl _ _).set (.inl (by simp)) _).set (.inr g2) _).set (.inr g6) _).set (.inr g12) _
noncomputable abbrev tri (r e : Nat) (n : Nd) : List V := [wOpen e, wPut r n, wShut e]
theorem altI_eq (r e : Nat) (ns : List Nd) (last : Nd) : altI r e (ns ++ [last]) = ns.flatMap (tri r e) ++ [wPut r last] := by
  induction ns with
  | nil => rfl
  | cons n ns ih =>
    induction ns using List.casesOn with
    | nil => rfl
    | cons m ns => rw [List.flatMap_cons, List.append_assoc, ← ih]; rfl
theorem tri_len (r e : Nat) (ns : List Nd) : (ns.flatMap (tri r e)).length ≤ 3 * ns.length := by
  induction ns with
  | nil => simp
  | cons n ns ih => rw [List.flatMap_cons, List.length_append, List.length_cons]; simp only [List.length_cons, List.length_nil]; omega
theorem choice_loop {p f e b : Nat} {all : List V} {Qm : QS} (hb : H b = some (.lst all)) (nb : b ≠ f) (hf : H f ≠ none) : ∀ (rest : List Nd) (acc : List V) (x : V) (H' : Hp), acc.length + 3 * rest.length ≤ 90000 → H' f = some (.lst acc) → Exc [f] H H' →
    (∀ x H', H' f = some (.lst (acc ++ rest.flatMap (tri r e))) → Exc [f] H H' → Qm .next [.ref co, .ref p, .ref f, .ref e, x, .un, .un, .un, .un, .un] H') →
    forL b all 4 B_PatternCode_choice_1 (rest.map (Nd.v r)) (CN d) [.ref co, .ref p, .ref f, .ref e, x, .un, .un, .un, .un, .un] H' Qm
  | [], acc, x, H', h1, h2, h3, q => ⟨by rw [h3 b (by rw [hb]; nofun) (by simpa using nb)]; exact hb, q x H' (by simpa using h2) h3⟩
  | n :: rest, acc, x, H', h1, h2, h3, q => by
    simp only [List.length_cons] at h1
    refine forL_cons (by rw [h3 b (by rw [hb]; nofun) (by simpa using nb)]; exact hb) fun Kf k1 _ _ => ?_
    simp only [B_PatternCode_choice_1, lq_nd, sCons, sNil, sExp, pVal, pLoc, pTup, pList, pNil, pCons, pLm, isLst, onLst, bExtend, atMost, consV, consK, tupK, listK, isLstI_lst, lmK2, lmK, onLstI_lst, seqK, expK, List.getElem?_cons_succ, List.getElem?_cons_zero, List.set_cons_succ, List.set_cons_zero, List.length_cons, List.length_nil, Nat.reduceAdd, Nat.reduceLeDiff, true_and, Hp.set_self, h2]
    intro t ht
    have nt : f ≠ t := ne_of h2 ht
    simp only [Hp.set_ne _ _ nt, h2, onLstI_lst]
    refine ⟨by omega, ?_⟩
    rw [k1]
    have ht0 : H t = none := by
      cases e : H t with
      | none => rfl
      | some y => rw [h3 t (by rw [e]; nofun) (by simpa using nt.symm), e] at ht; cases ht
    refine choice_loop hb nb hf rest (acc ++ tri r e n) _ _ (by simp only [List.length_append, List.length_cons, List.length_nil]; omega) (Hp.set_self _ _ _) ((h3.set (.inr ht0) _).set (.inl (by simp)) _) fun x H' g1 g2 => q x H' ?_ g2
    rw [List.flatMap_cons, ← List.append_assoc]; exact g1
theorem c_choice {ns : List Nd} {last : Nd} {p : Nat} (hp : H p = some (.lst ((ns ++ [last]).map (Nd.v r)))) (hn : ns.length ≤ 10000)
    (q : ∀ a e e2 H', H e = none → H e2 = none → e ≠ e2 → H' a = some (.lst (altI r e (ns ++ [last]) ++ [wMeet e])) → H' e = some (.lst [.int (-1), .ref e2]) → H' e2 = some (.lst []) → Ext H H' → H a = none → Q (.ref a) H') : CN (d + 1) 77 [.ref co, .ref p] H Q := by
  refine callF (P := P_PatternCode_choice) rfl rfl rfl ?_
  simp only [P_PatternCode_choice, P_PatternCode_choice_0, P_PatternCode_choice_1, P_PatternCode_choice_2, sFor, sCons, sSwap, pVal, pLoc, pOp2, pTup, pList, pNil, pCons, pSl, slQ, pBlt, bLen, lenV, bAr, partOf, slL, two, retV, atMost, optQ_some, op2V, op2K, consV, consK, tupK, listK, slK4, slK3, slK2, slK1, bltK, seqK, swapK2, swapK, onList, List.getElem?_cons_succ, List.getElem?_cons_zero, List.set_cons_succ, List.set_cons_zero, List.replicate_succ, List.replicate_zero, List.cons_append, List.nil_append, Hp.set_self]
  intro f hf e2 he2 e he
  obtain ⟨g1, g2⟩ := none_set he2
  obtain ⟨g3, g4⟩ := none_set he
  obtain ⟨g5, g6⟩ := none_set g4
  have np1 : p ≠ f := ne_of hp hf
  have np2 : p ≠ e2 := ne_of hp g2
  have np3 : p ≠ e := ne_of hp g6
  simp only [Hp.set_ne _ _ np1, Hp.set_ne _ _ np2, Hp.set_ne _ _ np3, hp, List.length_map, List.length_append, lenI_lst, List.length_cons, List.length_nil, Nat.reduceAdd, Nat.reduceLeDiff]
  refine ⟨by omega, ?_⟩
  rw [if_pos (by omega), show ((ns.length + 1 : Nat) : Int) - 1 = ns.length by omega, Int.toNat_natCast]
  have et : List.take ns.length ((ns ++ [last]).map (Nd.v r)) = ns.map (Nd.v r) := by simp
  rw [et]
  refine ⟨by omega, fun b hb => ?_⟩
  obtain ⟨k1, k2⟩ := none_set hb
  obtain ⟨k3, k4⟩ := none_set k2
  obtain ⟨k5, k6⟩ := none_set k4
  have hf1 : ((((H.set f (MO.lst [])).set e2 (MO.lst [])).set e (MO.lst [V.int (-1), V.ref e2])).set b (MO.lst (ns.map (Nd.v r)))) f = some (.lst []) := by
    rw [Hp.set_ne _ _ k5.symm, Hp.set_ne _ _ g5.symm, Hp.set_ne _ _ g1.symm, Hp.set_self]
  refine choice_loop (H := ((((H.set f (MO.lst [])).set e2 (MO.lst [])).set e (MO.lst [V.int (-1), V.ref e2])).set b (MO.lst (ns.map (Nd.v r))))) (Hp.set_self _ _ _) k5 (by rw [hf1]; nofun) ns [] _ _ (by simp; omega) hf1 (Exc.refl _ _) fun x H' j1 j2 => ?_
  have hp' : H' p = some (.lst ((ns ++ [last]).map (Nd.v r))) := by
    have npb : p ≠ b := ne_of hp k6
    have e1 : ((((H.set f (MO.lst [])).set e2 (MO.lst [])).set e (MO.lst [V.int (-1), V.ref e2])).set b (MO.lst (ns.map (Nd.v r)))) p = H p := by
      rw [Hp.set_ne _ _ npb, Hp.set_ne _ _ np3, Hp.set_ne _ _ np2, Hp.set_ne _ _ np1]
    rw [j2 p (by rw [e1, hp]; nofun) (by simpa using np1), e1]; exact hp
  simp only [pAddL, addLQ, sCons, sRet, pVal, pLoc, pOp2, pTup, pList, pNil, pCons, pBlt, bLen, lenV, bAr, bIdx, optQ_some, op2V, op2K, consV, consK, bltK, lenI_lst, seqK, retK, List.getElem?_cons_succ, List.getElem?_cons_zero, List.length_cons, List.length_nil, Nat.reduceAdd, Nat.reduceLeDiff, hp', List.length_map, List.length_append]
  refine ⟨by omega, ?_⟩
  rw [if_pos ⟨by omega, by omega⟩, show ((ns.length + 1 : Nat) : Int) - 1 = ns.length by omega, Int.toNat_natCast]
  have el : ((ns ++ [last]).map (Nd.v r))[ns.length]? = some (last.v r) := by simp
  rw [el]
  intro t ht
  have nft : f ≠ t := ne_of j1 ht
  simp only [Hp.set_ne _ _ nft, j1, List.nil_append, List.length_cons, List.length_nil, Nat.reduceAdd, Nat.reduceLeDiff, Hp.set_self, List.nil_append]
  refine ⟨?_, fun a ha => ?_⟩
  · have := tri_len r e ns; omega
  obtain ⟨m1, m2⟩ := none_set ha
  have he' : H' e = some (.lst [.int (-1), .ref e2]) := by
    have e1 : ((((H.set f (MO.lst [])).set e2 (MO.lst [])).set e (MO.lst [V.int (-1), V.ref e2])).set b (MO.lst (ns.map (Nd.v r)))) e = some (.lst [.int (-1), .ref e2]) := by
      rw [Hp.set_ne _ _ k1.symm, Hp.set_self]
    rw [j2 e (by rw [e1]; nofun) (by simpa using g5), e1]
  have he2' : H' e2 = some (.lst []) := by
    have e1 : ((((H.set f (MO.lst [])).set e2 (MO.lst [])).set e (MO.lst [V.int (-1), V.ref e2])).set b (MO.lst (ns.map (Nd.v r)))) e2 = some (.lst []) := by
      rw [Hp.set_ne _ _ k3.symm, Hp.set_ne _ _ g3.symm, Hp.set_self]
    rw [j2 e2 (by rw [e1]; nofun) (by simpa using g1), e1]
  have hx : Ext H H' := fun y hy => by
    have nf : y ≠ f := fun e => hy (by rw [e]; exact hf)
    have ne2 : y ≠ e2 := fun e => hy (by rw [e]; exact g2)
    have nee : y ≠ e := fun e' => hy (by rw [e']; exact g6)
    have nbb : y ≠ b := fun e => hy (by rw [e]; exact k6)
    have e1 : ((((H.set f (MO.lst [])).set e2 (MO.lst [])).set e (MO.lst [V.int (-1), V.ref e2])).set b (MO.lst (ns.map (Nd.v r)))) y = H y := by
      rw [Hp.set_ne _ _ nbb, Hp.set_ne _ _ nee, Hp.set_ne _ _ ne2, Hp.set_ne _ _ nf]
    rw [j2 y (by rw [e1]; exact hy) (by simpa using nf), e1]
  refine q a e e2 _ g6 g2 g3 ?_ ?_ ?_ ((hx.set (hx.none ht) _).set (hx.none m2) _) (hx.none m2)
  · rw [Hp.set_self, altI_eq]; simp
  · rw [Hp.set_ne _ _ (ne_of he' m2), Hp.set_ne _ _ (ne_of he' ht)]; exact he'
  · rw [Hp.set_ne _ _ (ne_of he2' m2), Hp.set_ne _ _ (ne_of he2' ht)]; exact he2'
end

theorem loop_map {G : Hp → Prop} {tgt : V → (List V → Prop) → Prop} {t : pTest} {e : PT} {C : Cl} {H : Hp} {K : List V → Hp → Prop} (f : V → V) (p : V → Bool) (hG : G H) : ∀ (vs acc : List V), acc.length + vs.length ≤ 100000 →
    (∀ v ∈ vs, ∀ (Kt : V → Hp → Prop) (Kf : Hp → Prop), (p v = true → Kt (f v) H) → (p v = false → Kf H) → tgt v fun ρ => t C ρ H fun b H => match b with | true => e C ρ H fun y H => Kt y H | false => Kf H) →
    K (acc ++ (vs.filter p).map f) H → loopC G tgt t e vs acc C H K
  | [], acc, _, _, q => ⟨hG, by simpa using q⟩
  | v :: vs, acc, hl, h, q => by
    simp only [List.length_cons] at hl
    refine ⟨hG, h v (.head _) (fun y H => acc.length ≤ 100000 ∧ loopC G tgt t e vs (acc ++ [y]) C H K) (fun H => loopC G tgt t e vs acc C H K) (fun hp => ?_) (fun hp => ?_)⟩
    · refine ⟨by omega, loop_map f p hG vs _ (by simp only [List.length_append, List.length_cons, List.length_nil]; omega) (fun v hv => h v (.tail _ hv)) ?_⟩
      simpa [List.filter_cons, hp] using q
    · refine loop_map f p hG vs _ (by omega) (fun v hv => h v (.tail _ hv)) ?_
      simpa [List.filter_cons, hp] using q
section
variable {H : Hp} {d : Nat} {Q : QV} {co ol r : Nat}
theorem begun_head {n : Nd} {rr : ST} (q : rr (CN (d + 2)) [.ref co, n.v r, .str n.kd, .un, .un, .un, .un, .un, .un, .un, .un, .un, .un, .un, .un, .un, .un] H (fun fl _ H => Q (retV fl) H)) :
    sCons (sAsg 2 (pOp2 bIdx (pLoc 1) (pVal (V.int 0)))) rr (CN (d + 2)) ([.ref co, n.v r] ++ List.replicate 15 V.un) H (fun fl _ H => Q (retV fl) H) := by
  obtain ⟨rest, e1, e2⟩ := Nd.v_head r n
  rw [w_seq]
  rw [e1] at q ⊢
  simp only [sAsg, pVal, pLoc, pOp2, bIdx, retV, op2V, op2K, List.getElem?_cons_succ, List.getElem?_cons_zero, List.replicate_succ, List.replicate_zero, List.cons_append, List.nil_append, List.length_cons, Nat.reduceLeDiff, Int.reduceToNat, Int.le_refl, true_and]
  rw [if_pos (by omega)]
  exact q
theorem c_begun_cat {x y : Nd} (hw : (Nd.cat x y).w ≤ 1000) (q : ∀ a H', H a = none → H' a = some (.lst ((joinL (rowK true (.cat x y))).map (wPut r))) → Ext H H' → Q (.ref a) H') : CN (d + 3) 70 [.ref co, (Nd.cat x y).v r] H Q := by
  refine callF (P := P_PatternCode_begun) rfl rfl rfl ?_
  unfold P_PatternCode_begun
  refine begun_head (ifeq_yes rfl rfl (w_ret ?_))
  simp only [pComp, pCompL, pVal, pLoc, pNil, pCons, pCall, retV, consV, consK, callK, onList, List.getElem?_cons_succ, List.getElem?_cons_zero]
  refine ⟨by simp [frB], ?_⟩
  simp only [lq_nd]
  refine c_row_of (k := true) hw fun p H1 hp hp1 hx => ?_
  have w1 := rowK_w true (.cat x y)
  dsimp only [optQ_some, ifPK, op2V, op2K, cmpV, cmpK, ofTK, ofPK, notK, andK, orK, consV, consK, tupK, listK, slK4, slK3, slK2, slK1, attrK, callK, bltK, methK3, methK2, methK, lmK2, lmK, seqK, retK, expK, ifK, asgK, nextK, putK2, putK, setK3, setK2, setK, twoK2, twoK, swapK2, swapK, augK3, augK2, augK, augA4, augA3, augA2, augA1, pNil]
  refine c_joined hp1 (by omega) fun a H2 ha ha2 hx2 => ?_
  have w2 := joinL_w (rowK true (.cat x y))
  have w3 := wL_len (joinL (rowK true (.cat x y)))
  simp only [ha2, List.length_map]
  refine ⟨by omega, ?_⟩
  refine loop_map (f := fun v => .tup [.str [112, 117, 116], v]) (p := fun _ => true) ha2 _ _ (by simp; omega) ?_ ?_
  · intro v hv Kt Kf k1 k2
    obtain ⟨n, hn, rfl⟩ := List.mem_map.mp hv
    simp only [tgName, cEnv, tTrue, lq_nd, pVal, pLoc, pTup, pNil, pCons, atMost, consV, consK, tupK, List.getElem?_cons_succ, List.getElem?_cons_zero, List.set_cons_succ, List.set_cons_zero, List.map_cons, List.map_nil]
    exact k1 rfl
  · intro b hb
    refine q b _ ((hx.trans hx2).none hb) ?_ ((hx.trans hx2).set ((hx.trans hx2).none hb) _)
    rw [Hp.set_self, List.filter_eq_self.mpr (by simp)]
    simp
theorem c_begun_alt {x y : Nd} (hw : (Nd.alt x y).w ≤ 1000) {ns : List Nd} {last : Nd} (hr : rowK false (.alt x y) = ns ++ [last])
    (q : ∀ a e e2 H', H a = none → H e = none → H e2 = none → e ≠ e2 → H' a = some (.lst (altI r e (ns ++ [last]) ++ [wMeet e])) → H' e = some (.lst [.int (-1), .ref e2]) → H' e2 = some (.lst []) → Ext H H' → Q (.ref a) H')
    (hco : H co = some (codeO ol)) : CN (d + 3) 70 [.ref co, (Nd.alt x y).v r] H Q := by
  refine callF (P := P_PatternCode_begun) rfl rfl rfl ?_
  unfold P_PatternCode_begun
  refine begun_head (ifeq_nil rfl rfl (ifeq_yes rfl rfl (w_ret ?_)))
  simp only [hco, codeO, lq_nd, pVal, pLoc, pNil, pCons, pCall, pMeth, methQ, retV, getF, consV, consK, callK, methI_ins, methK2, methK, List.getElem?_cons_succ, List.getElem?_cons_zero, Nat.reduceBEq, me_94_21, na_94_21]
  refine c_row_of (k := false) hw fun p H1 hp hp1 hx => ?_
  have w1 := rowK_w false (.alt x y)
  have w3 := wL_len (rowK false (.alt x y))
  rw [hr] at hp1
  refine c_choice (d := d + 1) hp1 (by rw [hr] at w3 w1; simp only [List.length_append, List.length_cons, List.length_nil] at w3; omega) fun a e e2 H2 he he2 ne h1 h2 h3 hx2 ha => ?_
  exact q a e e2 H2 (hx.none ha) (hx.none he) (hx.none he2) ne h1 h2 h3 (hx.trans hx2)
theorem c_begun_arbno {x : Nd} {os : List V} (hco : H co = some (codeO ol)) (hol : H ol = some (.lst os)) (hl : os.length ≤ 80000)
    (q : ∀ a e e2 H', H a = none → H e = none → H e2 = none → e ≠ e2 → H' a = some (.lst [wPut r x, wEmit r .gain, wEmit r (.jump os.length), wMeet e]) → H' e = some (.lst [.int os.length, .ref e2]) → H' e2 = some (.lst [.int (os.length + 1 : Nat)]) →
      H' ol = some (.lst (os ++ [(Od.split (os.length + 2)).v r, .none, Od.mark.v r])) → Exc [ol] H H' → Q (.ref a) H') : CN (d + 3) 70 [.ref co, (Nd.arbno x).v r] H Q := by
  refine callF (P := P_PatternCode_begun) rfl rfl rfl ?_
  unfold P_PatternCode_begun
  refine begun_head (ifeq_nil rfl rfl (ifeq_nil rfl rfl (ifeq_yes rfl rfl (w_ret ?_))))
  simp only [hco, codeO, Nd.v, pVal, pLoc, pOp2, pNil, pCons, pMeth, methQ, bIdx, retV, getF, optQ_some, op2V, op2K, consV, consK, methI_ins, methK3, methK2, methK, List.getElem?_cons_succ, List.getElem?_cons_zero, List.length_cons, List.length_nil, Nat.reduceBEq, Nat.reduceAdd, Nat.reduceLeDiff, Int.reduceLE, Int.reduceToNat, and_true, reduceIte, me_94_22, na_94_22]
  exact c_repeat hco hol hl q
theorem c_begun_now {x : Nd} {os : List V} (hco : H co = some (codeO ol)) (hol : H ol = some (.lst os)) (hl : os.length ≤ 80000)
    (q : ∀ a H', H a = none → H' a = some (.lst [wPut r x, wEmit r .set]) → H' ol = some (.lst (os ++ [Od.mark.v r])) → Exc [ol] H H' → Q (.ref a) H') : CN (d + 3) 70 [.ref co, (Nd.now x).v r] H Q := by
  refine callF (P := P_PatternCode_begun) rfl rfl rfl ?_
  unfold P_PatternCode_begun
  have n1 : co ≠ ol := fun e => by rw [e, hol] at hco; cases hco
  refine begun_head (ifeq_nil rfl rfl (ifeq_nil rfl rfl (ifeq_nil rfl rfl ?_)))
  rw [w_seq]
  simp only [hco, codeO, Nd.kd, Nd.v, sCons, sExp, sIf, pVal, pLoc, pTup, pNil, pCons, pMeth, methQ, tCmp, tOr, bIn, bEq, retV, getF, atMost, optQ_some, cmpV, cmpK, orK, consV, consK, tupK, methI_ins, methK3, methK2, methK, ifK, List.getElem?_cons_succ, List.getElem?_cons_zero, nb1, nb3, nb4, Nat.reduceBEq, Bool.and_true, Bool.and_false, me_94_18, na_94_18]
  refine c_emit (d := d + 1) nofun hco hol (by omega) ?_
  intro a ha
  obtain ⟨g1, g2⟩ := none_set ha
  refine q a _ g2 (Hp.set_self _ _ _) (by rw [Hp.set_ne _ _ g1.symm, Hp.set_self]; rfl) (((Exc.refl _ _).set (.inl (by simp)) _).set (.inr g2) _)
theorem c_begun_sg {g : Sg} {os : List V} (hco : H co = some (codeO ol)) (hol : H ol = some (.lst os)) (hl : os.length ≤ 80000)
    (q : ∀ a H', H a = none → H' a = some (.lst []) → H' ol = some (.lst (os ++ [(Od.one g).v r])) → Exc [ol] H H' → Q (.ref a) H') : CN (d + 3) 70 [.ref co, (Nd.sg g).v r] H Q := by
  refine callF (P := P_PatternCode_begun) rfl rfl rfl ?_
  unfold P_PatternCode_begun
  have n1 : co ≠ ol := fun e => by rw [e, hol] at hco; cases hco
  have e1 : (g.kind == [99, 97, 116]) = false ∧ (g.kind == [97, 108, 116]) = false ∧ (g.kind == [97, 114, 98, 110, 111]) = false ∧ (g.kind == [108, 97, 116, 101, 114]) = false ∧ (g.kind == [110, 111, 119]) = false := by cases g <;> exact ⟨rfl, rfl, rfl, rfl, rfl⟩
  have e2 : [[99, 104, 97, 114, 115], [108, 101, 110], [112, 111, 115], [114, 112, 111, 115], [116, 97, 98], [114, 116, 97, 98], [97, 110, 121], [110, 111, 116, 97, 110, 121], [115, 112, 97, 110], [98, 114, 101, 97, 107], [114, 101, 109]].contains g.kind = true := by
    cases g <;> rfl
  refine begun_head (ifeq_nil rfl e1.1 (ifeq_nil rfl e1.2.1 (ifeq_nil rfl e1.2.2.1 ?_)))
  rw [w_seq]
  simp only [optQ_some, cmpV, cmpK, orK, ifK, tOr, sIf, tCmp, pLoc, pVal, bEq, List.getElem?_cons_succ, List.getElem?_cons_zero, Nd.kd, e1, sNil]
  rw [w_seq]
  simp only [optQ_some, cmpV, cmpK, ifK, sIf, tCmp, pLoc, pVal, bIn, strsOf, Option.map_some, List.getElem?_cons_succ, List.getElem?_cons_zero, e2]
  simp only [hco, codeO, Nd.v, sCons, sRet, sExp, pVal, pLoc, pIf, pOp2, pTup, pList, pNil, pCons, pBlt, bLen, lenV, pMeth, methQ, tCmp, bLt, bIdx, retV, getF, atMost, optQ_some, ifPK, op2V, op2K, cmpV, cmpK, consV, consK, tupK, listK, bltK, methI_ins, methK3, methK2, methK, seqK, retK, List.getElem?_cons_succ, List.getElem?_cons_zero, List.length_cons, List.length_nil, Nat.reduceBEq, Nat.reduceAdd, Nat.reduceLeDiff, Int.reduceLE, Int.reduceToNat, true_and, and_true, reduceIte, me_94_18, na_94_18]
  refine c_emit (d := d + 1) nofun hco hol (by omega) ?_
  intro a ha
  obtain ⟨g1, g2⟩ := none_set ha
  exact q a _ g2 (Hp.set_self _ _ _) (by rw [Hp.set_ne _ _ g1.symm, Hp.set_self]; rfl) (((Exc.refl _ _).set (.inl (by simp)) _).set (.inr g2) _)
theorem c_begun_ways {b : Bool} {os : List V} (hco : H co = some (codeO ol)) (hol : H ol = some (.lst os)) (hl : os.length ≤ 80000)
    (q : ∀ a H', H a = none → H' a = some (.lst []) → H' ol = some (.lst (os ++ [(Od.ways b).v r])) → Exc [ol] H H' → Q (.ref a) H') : CN (d + 3) 70 [.ref co, (Nd.ways b).v r] H Q := by
  refine callF (P := P_PatternCode_begun) rfl rfl rfl ?_
  unfold P_PatternCode_begun
  have n1 : co ≠ ol := fun e => by rw [e, hol] at hco; cases hco
  have e1 : (waysK b == [99, 97, 116]) = false ∧ (waysK b == [97, 108, 116]) = false ∧ (waysK b == [97, 114, 98, 110, 111]) = false ∧ (waysK b == [108, 97, 116, 101, 114]) = false ∧ (waysK b == [110, 111, 119]) = false := by induction b using Bool.casesOn <;> exact ⟨rfl, rfl, rfl, rfl, rfl⟩
  have e2 : [[99, 104, 97, 114, 115], [108, 101, 110], [112, 111, 115], [114, 112, 111, 115], [116, 97, 98], [114, 116, 97, 98], [97, 110, 121], [110, 111, 116, 97, 110, 121], [115, 112, 97, 110], [98, 114, 101, 97, 107], [114, 101, 109]].contains (waysK b) = false := by
    induction b using Bool.casesOn <;> rfl
  refine begun_head (ifeq_nil rfl e1.1 (ifeq_nil rfl e1.2.1 (ifeq_nil rfl e1.2.2.1 ?_)))
  rw [w_seq]
  simp only [optQ_some, cmpV, cmpK, orK, ifK, tOr, sIf, tCmp, pLoc, pVal, bEq, List.getElem?_cons_succ, List.getElem?_cons_zero, Nd.kd, e1, sNil]
  rw [w_seq]
  simp only [optQ_some, cmpV, cmpK, ifK, sIf, tCmp, pLoc, pVal, bIn, strsOf, Option.map_some, List.getElem?_cons_succ, List.getElem?_cons_zero, e2]
  have fin : ∀ a H', H a = none → H' = (H.set ol (.lst (os ++ [(Od.ways b).v r]))).set a (.lst []) → a ≠ ol → Q (.ref a) H' := by
    rintro a H' h1 rfl h3
    exact q a _ h1 (Hp.set_self _ _ _) (by rw [Hp.set_ne _ _ h3.symm, Hp.set_self]) (((Exc.refl _ _).set (.inl (by simp)) _).set (.inr h1) _)
  induction b using Bool.casesOn with
  | true =>
    simp only [hco, codeO, Nd.v, waysK, sCons, sRet, sExp, sIf, pVal, pLoc, pTup, pList, pNil, pCons, pMeth, methQ, tCmp, tOr, bEq, retV, getF, atMost, optQ_some, cmpV, cmpK, orK, consV, consK, tupK, listK, methI_ins, methK3, methK2, methK, seqK, retK, ifK, List.getElem?_cons_succ, List.getElem?_cons_zero, nb3, nb4, Nat.reduceBEq, Bool.and_true, me_94_18, na_94_18]
    refine c_emit (d := d + 1) nofun hco hol (by omega) ?_
    intro a ha
    obtain ⟨g1, g2⟩ := none_set ha
    exact fin a _ g2 rfl g1
  | false =>
    simp only [hco, codeO, Nd.v, waysK, sCons, sRet, sExp, sIf, pVal, pLoc, pTup, pList, pNil, pCons, pMeth, methQ, tCmp, tOr, bEq, retV, getF, atMost, optQ_some, cmpV, cmpK, orK, consV, consK, tupK, listK, methI_ins, methK3, methK2, methK, seqK, retK, ifK, List.getElem?_cons_succ, List.getElem?_cons_zero, nb3, nb4, Nat.reduceBEq, Bool.and_true, Bool.and_false, me_94_18, na_94_18]
    refine c_emit (d := d + 1) nofun hco hol (by omega) ?_
    intro a ha
    obtain ⟨g1, g2⟩ := none_set ha
    exact fin a _ g2 rfl g1
theorem c_begun_fail {os : List V} (hco : H co = some (codeO ol)) (hol : H ol = some (.lst os)) (hl : os.length ≤ 80000)
    (q : ∀ a H', H a = none → H' a = some (.lst []) → H' ol = some (.lst (os ++ [Od.fail.v r])) → Exc [ol] H H' → Q (.ref a) H') : CN (d + 3) 70 [.ref co, Nd.fail.v r] H Q := by
  refine callF (P := P_PatternCode_begun) rfl rfl rfl ?_
  unfold P_PatternCode_begun
  have n1 : co ≠ ol := fun e => by rw [e, hol] at hco; cases hco
  refine begun_head (ifeq_nil rfl rfl (ifeq_nil rfl rfl (ifeq_nil rfl rfl ?_)))
  rw [w_seq]
  simp only [optQ_some, cmpV, cmpK, orK, ifK, tOr, sIf, tCmp, pLoc, pVal, bEq, List.getElem?_cons_succ, List.getElem?_cons_zero, Nd.kd, sNil, nb1, nb2, nb4, Nat.reduceBEq, Bool.and_false]
  rw [w_seq]
  simp only [hco, codeO, Nd.v, sCons, sRet, sExp, sIf, pVal, pLoc, pIf, pTup, pList, pNil, pCons, pMeth, methQ, tCmp, tOr, bIn, bEq, retV, getF, atMost, optQ_some, ifPK, cmpV, cmpK, orK, consV, consK, tupK, listK, methI_ins, methK3, methK2, methK, seqK, retK, ifK, strsOf, List.getElem?_cons_succ, List.getElem?_cons_zero, nb1, nb2, nb3, nb4, Nat.reduceBEq, Bool.and_true, Bool.and_false, List.contains_cons, List.contains_nil, Bool.or_false, Bool.or_true, Option.map_some, me_94_18, na_94_18]
  refine c_emit (d := d + 1) nofun hco hol (by omega) ?_
  intro a ha
  obtain ⟨g1, g2⟩ := none_set ha
  exact q a _ g2 (Hp.set_self _ _ _) (by rw [Hp.set_ne _ _ g1.symm, Hp.set_self]; rfl) (((Exc.refl _ _).set (.inl (by simp)) _).set (.inr g2) _)
end

structure WS (co ol wl r : Nat) (rest : List V) (os : List (Option Od)) (H : Hp) : Prop where
  hco : H co = some (codeO ol)
  hol : H ol = some (.lst (os.map (ov r)))
  hwl : H wl = some (.lst rest)
  ne : ol ≠ wl
section
variable {H : Hp} {d : Nat} {Q : QV} {co ol wl r : Nat} {P : List V → Hp → Prop} {Qm : QS} {nv : V} {rest : List V} {os : List (Option Od)} {x3 x4 : V}
noncomputable abbrev rho (co wl : Nat) (nv x3 x4 : V) : List V := [.ref co, nv, .ref wl, x3, x4, .un, .un, .un]
theorem WS.nco (I : WS co ol wl r rest os H) : co ≠ wl ∧ co ≠ ol := by
  constructor
  · intro e; have z := I.hco; rw [e, I.hwl] at z; cases z
  · intro e; have z := I.hco; rw [e, I.hol] at z; cases z
noncomputable abbrev Hit (d : Nat) (P : List V → Hp → Prop) (Qm : QS) : Prop := ∀ ρ H, wst T_PatternCode_put_1 B_PatternCode_put_2 (CN (d + 3)) P Qm ρ H → P ρ H
theorem st_put (hP : Hit d P Qm) {n : Nd} (I : WS co ol wl r (rest ++ [wPut r n]) os H) (hl : rest.length ≤ 10000)
    (q : ∀ Q' : QV, (∀ a its H', H' a = some (.lst its) → its.length ≤ 10000 → H' wl = some (.lst rest) → (∀ t, H' t = none → ∀ x4, P (rho co wl nv (.str [112, 117, 116]) x4) ((H'.set t (.lst its.reverse)).set wl (.lst (rest ++ its.reverse)))) → Q' (.ref a) H') →
      CN (d + 3) 70 [.ref co, n.v r] (H.set wl (.lst rest)) Q') : P (rho co wl nv x3 x4) H := by
  refine hP _ _ ?_
  obtain ⟨n1, n2⟩ := I.nco
  simp only [wst, T_PatternCode_put_1, B_PatternCode_put_2, sCons, sIf, sTwo, pVal, pLoc, pNil, pCons, pBlt, bLen, lenV, pLm, isLst, onLst, bPop, tCmp, bLt, bEq, two, optQ_some, cmpV, cmpK, consV, consK, bltK, isLstI_lst, lmK2, lmK, onLstI_lst, lenI_lst, seqK, twoK2, twoK, List.getElem?_cons_succ, List.getElem?_cons_zero, List.set_cons_succ, List.set_cons_zero, List.length_cons, List.length_nil, Nat.reduceAdd, Nat.reduceLeDiff, I.hwl, List.length_append]
  refine ⟨by omega, ?_⟩
  rw [decide_eq_true (by omega : ((rest.length + (0 + 1) : Nat) : Int) > 0)]
  simp only [List.getLast?_append, List.getLast?_singleton, Option.some_or, List.dropLast_concat, Hp.set_ne _ _ n1, I.hco, codeO, lq_nd, sCons, sExp, pLoc, pNil, pCons, pSl, pMeth, methQ, pLm, isLst, getF, optQ_some, consV, consK, methI_ins, methK3, methK2, methK, isLstI_lst, lmK, ifK, List.getElem?_cons_succ, List.getElem?_cons_zero, nb3, nb4, Nat.reduceBEq, Bool.and_true, Hp.set_self, me_94_20, na_94_20]
  refine ⟨by omega, q _ fun a its H' h1 h2 h3 h4 => ?_⟩
  simp only [h1, sNil, pVal, pNil, slQ, onLst, bExtend, partOf, slL, consV, consK, slK4, slK3, slK2, slK1, lmK2, onLstI_lst, seqK, expK, Hp.set_self, reduceIte]
  refine ⟨by omega, fun t ht => ?_⟩
  have nt : wl ≠ t := ne_of h3 ht
  simp only [Hp.set_ne _ _ nt, h3, List.length_reverse]
  exact ⟨by omega, by omega, h4 t ht _⟩
theorem st_emit (hP : Hit d P Qm) {od : Od} (I : WS co ol wl r (rest ++ [wEmit r od]) os H) (hl : rest.length ≤ 10000) (ho : os.length ≤ 10000)
    (q : ∀ H' x3 x4, WS co ol wl r rest (os ++ [some od]) H' → Exc [ol, wl] H H' → P (rho co wl nv x3 x4) H') : P (rho co wl nv x3 x4) H := by
  refine hP _ _ ?_
  obtain ⟨n1, n2⟩ := I.nco
  simp only [wst, T_PatternCode_put_1, B_PatternCode_put_2, sCons, sIf, sTwo, pVal, pLoc, pNil, pCons, pBlt, bLen, lenV, pLm, isLst, onLst, bPop, tCmp, bLt, bEq, two, optQ_some, cmpV, cmpK, consV, consK, bltK, isLstI_lst, lmK2, lmK, onLstI_lst, lenI_lst, seqK, twoK2, twoK, List.getElem?_cons_succ, List.getElem?_cons_zero, List.set_cons_succ, List.set_cons_zero, List.length_cons, List.length_nil, Nat.reduceAdd, Nat.reduceLeDiff, I.hwl, List.length_append]
  refine ⟨by omega, ?_⟩
  rw [decide_eq_true (by omega : ((rest.length + (0 + 1) : Nat) : Int) > 0)]
  simp only [List.getLast?_append, List.getLast?_singleton, Option.some_or, List.dropLast_concat, Hp.set_ne _ _ n1, I.hco, codeO, lq_od, sCons, sExp, sIf, pVal, pLoc, pNil, pCons, pMeth, methQ, tCmp, bEq, getF, optQ_some, cmpV, cmpK, consV, consK, methI_ins, methK3, methK2, methK, ifK, List.getElem?_cons_succ, List.getElem?_cons_zero, nb2, nb3, nb4, Nat.reduceBEq, Bool.and_true, Bool.and_false, me_94_18, na_94_18]
  refine ⟨by omega, ?_⟩
  refine c_emit (d := d + 2) (ol := ol) (os := os.map (ov r)) (by induction od using Od.casesOn <;> nofun) (by rw [Hp.set_ne _ _ n1]; exact I.hco) (by rw [Hp.set_ne _ _ I.ne]; exact I.hol) (by simp; omega) ?_
  refine q _ _ _ ⟨?_, ?_, ?_, I.ne⟩ (((Exc.refl _ _).set (.inl (by simp)) _).set (.inl (by simp)) _)
  · rw [Hp.set_ne _ _ n2, Hp.set_ne _ _ n1]; exact I.hco
  · rw [Hp.set_self]; simp [ov]
  · rw [Hp.set_ne _ _ I.ne.symm, Hp.set_self]
theorem st_open (hP : Hit d P Qm) {e e2 : Nat} {x : V} (I : WS co ol wl r (rest ++ [wOpen e]) os H) (hl : rest.length ≤ 10000) (ho : os.length ≤ 10000) (he : H e = some (.lst [x, .ref e2])) (n1 : e ≠ ol) (n2 : e ≠ wl)
    (q : ∀ H' x3 x4, WS co ol wl r rest (os ++ [none]) H' → H' e = some (.lst [.int os.length, .ref e2]) → Exc [ol, wl, e] H H' → P (rho co wl nv x3 x4) H') : P (rho co wl nv x3 x4) H := by
  refine hP _ _ ?_
  obtain ⟨m1, m2⟩ := I.nco
  have m3 : co ≠ e := fun z => by have y := I.hco; rw [z, he] at y; cases y
  simp only [wst, T_PatternCode_put_1, B_PatternCode_put_2, sCons, sIf, sTwo, pVal, pLoc, pNil, pCons, pBlt, bLen, lenV, pLm, isLst, onLst, bPop, tCmp, bLt, bEq, two, optQ_some, cmpV, cmpK, consV, consK, bltK, isLstI_lst, lmK2, lmK, onLstI_lst, lenI_lst, seqK, twoK2, twoK, List.getElem?_cons_succ, List.getElem?_cons_zero, List.set_cons_succ, List.set_cons_zero, List.length_cons, List.length_nil, Nat.reduceAdd, Nat.reduceLeDiff, I.hwl, List.length_append]
  refine ⟨by omega, ?_⟩
  rw [decide_eq_true (by omega : ((rest.length + (0 + 1) : Nat) : Int) > 0)]
  simp only [List.getLast?_append, List.getLast?_singleton, Option.some_or, List.dropLast_concat, Hp.set_ne _ _ m1, I.hco, codeO, sCons, sExp, sIf, pVal, pLoc, pNil, pCons, pMeth, methQ, tCmp, bEq, getF, optQ_some, cmpV, cmpK, consV, consK, methI_ins, methK3, methK2, methK, ifK, List.getElem?_cons_succ, List.getElem?_cons_zero, nb2, nb3, nb4, Nat.reduceBEq, Bool.and_true, Bool.and_false, me_94_23, na_94_23]
  refine ⟨by omega, ?_⟩
  refine c_bound_open (d := d + 1) (ol := ol) (os := os.map (ov r)) (by rw [Hp.set_ne _ _ m1]; exact I.hco) (by rw [Hp.set_ne _ _ I.ne]; exact I.hol) (by simp; omega) (by rw [Hp.set_ne _ _ n2]; exact he) n1 ?_
  refine q _ _ _ ⟨?_, ?_, ?_, I.ne⟩ (by rw [Hp.set_self]; simp) ((((Exc.refl _ _).set (.inl (by simp)) _).set (.inl (by simp)) _).set (.inl (by simp)) _)
  · rw [Hp.set_ne _ _ m3, Hp.set_ne _ _ m2, Hp.set_ne _ _ m1]; exact I.hco
  · rw [Hp.set_ne _ _ n1.symm, Hp.set_self]; simp [ov]
  · rw [Hp.set_ne _ _ n2.symm, Hp.set_ne _ _ I.ne.symm, Hp.set_self]
theorem st_shut (hP : Hit d P Qm) {e e2 p : Nat} {js : List Nat} (I : WS co ol wl r (rest ++ [wShut e]) os H) (hl : rest.length ≤ 10000) (ho : os.length ≤ 10000) (hjl : js.length ≤ 10000) (he : H e = some (.lst [.int p, .ref e2])) (he2 : H e2 = some (.lst (intsV js)))
    (n1 : e ≠ ol) (n2 : e ≠ wl) (n3 : e2 ≠ ol) (n4 : e2 ≠ wl) (n5 : e2 ≠ e) (hp : p < os.length)
    (q : ∀ H' x3 x4, WS co ol wl r rest ((os ++ [none]).set p (some (.split (os.length + 1)))) H' → H' e = some (.lst [.int p, .ref e2]) → H' e2 = some (.lst (intsV (js ++ [os.length]))) → Exc [ol, wl, e2] H H' → P (rho co wl nv x3 x4) H') : P (rho co wl nv x3 x4) H := by
  refine hP _ _ ?_
  obtain ⟨m1, m2⟩ := I.nco
  have m3 : co ≠ e := fun z => by have y := I.hco; rw [z, he] at y; cases y
  have m4 : co ≠ e2 := fun z => by have y := I.hco; rw [z, he2] at y; cases y
  simp only [wst, T_PatternCode_put_1, B_PatternCode_put_2, sCons, sIf, sTwo, pVal, pLoc, pNil, pCons, pBlt, bLen, lenV, pLm, isLst, onLst, bPop, tCmp, bLt, bEq, two, optQ_some, cmpV, cmpK, consV, consK, bltK, isLstI_lst, lmK2, lmK, onLstI_lst, lenI_lst, seqK, twoK2, twoK, List.getElem?_cons_succ, List.getElem?_cons_zero, List.set_cons_succ, List.set_cons_zero, List.length_cons, List.length_nil, Nat.reduceAdd, Nat.reduceLeDiff, I.hwl, List.length_append]
  refine ⟨by omega, ?_⟩
  rw [decide_eq_true (by omega : ((rest.length + (0 + 1) : Nat) : Int) > 0)]
  simp only [List.getLast?_append, List.getLast?_singleton, Option.some_or, List.dropLast_concat, Hp.set_ne _ _ m1, I.hco, codeO, sCons, sExp, sIf, pVal, pLoc, pNil, pCons, pMeth, methQ, tCmp, bEq, getF, optQ_some, cmpV, cmpK, consV, consK, methI_ins, methK3, methK2, methK, ifK, List.getElem?_cons_succ, List.getElem?_cons_zero, nb2, nb3, nb4, Nat.reduceBEq, Bool.and_true, Bool.and_false, me_94_23, na_94_23]
  refine ⟨by omega, ?_⟩
  refine c_bound_shut (d := d + 1) (ol := ol) (os := os.map (ov r)) (js := intsV js) (p := p) (e2 := e2) (by rw [Hp.set_ne _ _ m1]; exact I.hco) (by rw [Hp.set_ne _ _ I.ne]; exact I.hol) (by simp; omega) (by simp [intsV]; omega) (by rw [Hp.set_ne _ _ n2]; exact he) (by rw [Hp.set_ne _ _ n4]; exact he2) n1 n3 n5 (by simpa using hp) ?_
  refine q _ _ _ ⟨?_, ?_, ?_, I.ne⟩ ?_ ?_ (((((Exc.refl _ _).set (.inl (by simp)) _).set (.inl (by simp)) _).set (.inl (by simp)) _).set (.inl (by simp)) _)
  · rw [Hp.set_ne _ _ m2, Hp.set_ne _ _ m4, Hp.set_ne _ _ m2, Hp.set_ne _ _ m1]; exact I.hco
  · rw [Hp.set_self]; simp [ov, List.map_set, Od.v]
  · rw [Hp.set_ne _ _ I.ne.symm, Hp.set_ne _ _ n4.symm, Hp.set_ne _ _ I.ne.symm, Hp.set_self]
  · rw [Hp.set_ne _ _ n1, Hp.set_ne _ _ n5.symm, Hp.set_ne _ _ n1, Hp.set_ne _ _ n2]; exact he
  · rw [Hp.set_ne _ _ n3, Hp.set_self]; simp [intsV]
noncomputable def meetO (E : Nat) (js : List Nat) (os : List (Option Od)) : List (Option Od) := js.foldl (fun os j => os.set j (some (.jump E))) os
theorem meetO_map (r E : Nat) (js : List Nat) : ∀ os : List (Option Od), meetL (.tup [.str [106, 117, 109, 112], .int E]) js (os.map (ov r)) = (meetO E js os).map (ov r) := by
  unfold meetL meetO
  induction js with
  | nil => intro os; rfl
  | cons j js ih =>
    intro os
    rw [List.foldl_cons, List.foldl_cons, ← ih, List.map_set]
    rfl
theorem st_meet (hP : Hit d P Qm) {e e2 : Nat} {x : V} {js : List Nat} (I : WS co ol wl r (rest ++ [wMeet e]) os H) (hl : rest.length ≤ 10000) (ho : os.length ≤ 10000) (he : H e = some (.lst [x, .ref e2])) (he2 : H e2 = some (.lst (intsV js)))
    (n2 : e ≠ wl) (n3 : e2 ≠ ol) (n4 : e2 ≠ wl) (hj : ∀ j ∈ js, j < os.length)
    (q : ∀ H' x3 x4, WS co ol wl r rest (meetO os.length js os) H' → Exc [ol, wl] H H' → P (rho co wl nv x3 x4) H') : P (rho co wl nv x3 x4) H := by
  refine hP _ _ ?_
  obtain ⟨m1, m2⟩ := I.nco
  simp only [wst, T_PatternCode_put_1, B_PatternCode_put_2, sCons, sIf, sTwo, pVal, pLoc, pNil, pCons, pBlt, bLen, lenV, pLm, isLst, onLst, bPop, tCmp, bLt, bEq, two, optQ_some, cmpV, cmpK, consV, consK, bltK, isLstI_lst, lmK2, lmK, onLstI_lst, lenI_lst, seqK, twoK2, twoK, List.getElem?_cons_succ, List.getElem?_cons_zero, List.set_cons_succ, List.set_cons_zero, List.length_cons, List.length_nil, Nat.reduceAdd, Nat.reduceLeDiff, I.hwl, List.length_append]
  refine ⟨by omega, ?_⟩
  rw [decide_eq_true (by omega : ((rest.length + (0 + 1) : Nat) : Int) > 0)]
  simp only [List.getLast?_append, List.getLast?_singleton, Option.some_or, List.dropLast_concat, Hp.set_ne _ _ m1, I.hco, codeO, sCons, sExp, sIf, pVal, pLoc, pNil, pCons, pMeth, methQ, tCmp, bEq, getF, optQ_some, cmpV, cmpK, consV, consK, methI_ins, methK3, methK2, methK, ifK, List.getElem?_cons_succ, List.getElem?_cons_zero, nb2, nb3, nb4, Nat.reduceBEq, Bool.and_true, Bool.and_false, me_94_23, na_94_23]
  refine ⟨by omega, ?_⟩
  refine c_bound_meet (d := d + 1) (ol := ol) (os := os.map (ov r)) (js := js) (e2 := e2) (x := x) (by rw [Hp.set_ne _ _ m1]; exact I.hco) (by rw [Hp.set_ne _ _ I.ne]; exact I.hol) (by simp; omega) (by rw [Hp.set_ne _ _ n2]; exact he) (by rw [Hp.set_ne _ _ n4]; exact he2) n3 (by simpa using hj) fun H' g1 g2 => ?_
  have b1 : ∀ {b : Nat} {o : MO}, H b = some o → b ≠ wl → b ≠ ol → H' b = some o := fun h h1 h2 => by
    rw [g2 _ (by rw [Hp.set_ne _ _ h1, h]; nofun) (by simpa using h2), Hp.set_ne _ _ h1]; exact h
  refine q _ _ _ ⟨b1 I.hco m1 m2, ?_, ?_, I.ne⟩ ?_
  · rw [g1, List.length_map, meetO_map]
  · rw [g2 _ (by rw [Hp.set_self]; nofun) (by simpa using I.ne.symm), Hp.set_self]
  · exact (((Exc.refl _ _).set (.inl (by simp)) _).trans (g2.mono (by simp)))
end

inductive Job where
  | node (n : Nd) | seq (l : List Nd) | alts (l : List Nd)
noncomputable def altH (b : Nat) : List (List Od) → List (Option Od)
  | [] => []
  | [c] => c.map some
  | c :: cs => some (.split (b + 1 + c.length + 1)) :: (c.map some ++ none :: altH (b + 1 + c.length + 1) cs)
noncomputable def altJ (b : Nat) : List (List Od) → List Nat
  | [] => []
  | [_] => []
  | c :: cs => (b + 1 + c.length) :: altJ (b + 1 + c.length + 1) cs
noncomputable def altF (E b : Nat) : List (List Od) → List Od
  | [] => []
  | [c] => c
  | c :: cs => .split (b + 1 + c.length + 1) :: (c ++ .jump E :: altF E (b + 1 + c.length + 1) cs)
theorem altH_len (b E : Nat) : ∀ cs, (altH b cs).length = (altF E b cs).length
  | [] => rfl
  | [c] => by simp [altH, altF]
  | c :: c2 :: cs => by
    have := altH_len (b + 1 + c.length + 1) E (c2 :: cs)
    rw [show altH b (c :: c2 :: cs) = some (.split (b + 1 + c.length + 1)) :: (c.map some ++ none :: altH (b + 1 + c.length + 1) (c2 :: cs)) from rfl,
      show altF E b (c :: c2 :: cs) = .split (b + 1 + c.length + 1) :: (c ++ .jump E :: altF E (b + 1 + c.length + 1) (c2 :: cs)) from rfl]
    simp only [List.length_cons, List.length_append, List.length_map]
    omega
theorem altJ_lt : ∀ (cs : List (List Od)) (b : Nat), ∀ j ∈ altJ b cs, b < j ∧ j < b + (altH b cs).length
  | [], b, j, h => nomatch h
  | [c], b, j, h => nomatch h
  | c :: c2 :: cs, b, j, h => by
    have ih := altJ_lt (c2 :: cs) (b + 1 + c.length + 1)
    have e : altJ b (c :: c2 :: cs) = (b + 1 + c.length) :: altJ (b + 1 + c.length + 1) (c2 :: cs) := rfl
    have e' : (altH b (c :: c2 :: cs)).length = 1 + c.length + 1 + (altH (b + 1 + c.length + 1) (c2 :: cs)).length := by
      rw [show altH b (c :: c2 :: cs) = some (.split (b + 1 + c.length + 1)) :: (c.map some ++ none :: altH (b + 1 + c.length + 1) (c2 :: cs)) from rfl]
      simp only [List.length_cons, List.length_append, List.length_map]; omega
    rw [e] at h
    rw [e']
    rcases List.mem_cons.mp h with rfl | h
    · omega
    · have := ih j h; omega
theorem fill (E : Nat) : ∀ (cs : List (List Od)) (b : Nat) (os : List (Option Od)), os.length = b → meetO E (altJ b cs) (os ++ altH b cs) = os ++ (altF E b cs).map some
  | [], b, os, h => by simp [altJ, altH, altF, meetO]
  | [c], b, os, h => by simp [altJ, altH, altF, meetO]
  | c :: c2 :: cs, b, os, h => by
    have ih := fill E (c2 :: cs) (b + 1 + c.length + 1) (os ++ some (.split (b + 1 + c.length + 1)) :: (c.map some ++ [some (.jump E)])) (by simp; omega)
    rw [show altJ b (c :: c2 :: cs) = (b + 1 + c.length) :: altJ (b + 1 + c.length + 1) (c2 :: cs) from rfl,
      show altH b (c :: c2 :: cs) = some (.split (b + 1 + c.length + 1)) :: (c.map some ++ none :: altH (b + 1 + c.length + 1) (c2 :: cs)) from rfl,
      show altF E b (c :: c2 :: cs) = .split (b + 1 + c.length + 1) :: (c ++ .jump E :: altF E (b + 1 + c.length + 1) (c2 :: cs)) from rfl]
    unfold meetO
    rw [List.foldl_cons]
    have e : (os ++ some (.split (b + 1 + c.length + 1)) :: (c.map some ++ none :: altH (b + 1 + c.length + 1) (c2 :: cs))).set (b + 1 + c.length) (some (.jump E)) =
        (os ++ some (.split (b + 1 + c.length + 1)) :: (c.map some ++ [some (.jump E)])) ++ altH (b + 1 + c.length + 1) (c2 :: cs) := by
      rw [List.set_append_right _ _ (by omega), show b + 1 + c.length - os.length = c.length + 1 by omega, List.set_cons_succ, List.set_append_right _ _ (by simp)]
      simp
    rw [e]
    exact ih.trans (by simp)
/-- what a part's code is -/
inductive Gen : Job → Nat → List (List Od) → Prop
  | sg (g : Sg) (b : Nat) : Gen (.node (.sg g)) b [[.one g]]
  | ways (w : Bool) (b : Nat) : Gen (.node (.ways w)) b [[.ways w]]
  | fail (b : Nat) : Gen (.node .fail) b [[.fail]]
  | now {x : Nd} {b : Nat} {c : List Od} : Gen (.node x) (b + 1) [c] → Gen (.node (.now x)) b [.mark :: (c ++ [.set])]
  | arbno {x : Nd} {b : Nat} {c : List Od} : Gen (.node x) (b + 3) [c] → Gen (.node (.arbno x)) b [[.split (b + 2), .jump (b + 3 + c.length + 2), .mark] ++ c ++ [.gain, .jump b]]
  | cat {x y : Nd} {b : Nat} {cs : List (List Od)} : Gen (.seq (joinL (rowK true (.cat x y)))) b cs → Gen (.node (.cat x y)) b [cs.flatten]
  | alt {x y : Nd} {b : Nat} {cs : List (List Od)} : Gen (.alts (rowK false (.alt x y))) b cs → Gen (.node (.alt x y)) b [altF (b + (altH b cs).length) b cs]
  | nil (b : Nat) : Gen (.seq []) b []
  | cons {p : Nd} {ps : List Nd} {b : Nat} {c : List Od} {cs : List (List Od)} : Gen (.node p) b [c] → Gen (.seq ps) (b + c.length) cs → Gen (.seq (p :: ps)) b (c :: cs)
  | one {p : Nd} {b : Nat} {c : List Od} : Gen (.node p) b [c] → Gen (.alts [p]) b [c]
  | more {p p2 : Nd} {ps : List Nd} {b : Nat} {c : List Od} {cs : List (List Od)} : Gen (.node p) (b + 1) [c] → Gen (.alts (p2 :: ps)) (b + 1 + c.length + 1) cs → Gen (.alts (p :: p2 :: ps)) b (c :: cs)
theorem Gen.alts_ne {l : List Nd} {b : Nat} {cs : List (List Od)} (h : Gen (.alts l) b cs) : cs ≠ [] := by cases h <;> nofun
theorem rowK_ne (k : Bool) (n : Nd) : rowK k n ≠ [] := by
  induction n with
  | cat x y hx hy => induction k using Bool.casesOn with
    | true => rw [show rowK true (.cat x y) = rowK true x ++ rowK true y by simp [rowK]]; simp [hx]
    | false => simp [rowK]
  | alt x y hx hy => induction k using Bool.casesOn with
    | false => rw [show rowK false (.alt x y) = rowK false x ++ rowK false y by simp [rowK]]; simp [hx]
    | true => simp [rowK]
  | _ => induction k using Bool.casesOn <;> simp [rowK]
/-- a choice's marks are reckoned in -/
theorem rowK_w2 (n : Nd) : wL (rowK false n) + 2 * (rowK false n).length ≤ n.w + 2 := by
  induction n with
  | alt x y hx hy =>
    rw [show rowK false (.alt x y) = rowK false x ++ rowK false y by simp [rowK], wL_append, List.length_append]
    simp only [Nd.w]; omega
  | _ => simp [rowK, wL]
theorem rowK_w4 {x y : Nd} : wL (rowK false (.alt x y)) + 2 * (rowK false (.alt x y)).length + 1 ≤ (Nd.alt x y).w := by
  rw [show rowK false (.alt x y) = rowK false x ++ rowK false y by simp [rowK], wL_append, List.length_append]
  have := rowK_w2 x; have := rowK_w2 y
  simp only [Nd.w]; omega
theorem rowK_w3 {x y : Nd} : wL (rowK true (.cat x y)) + 1 ≤ (Nd.cat x y).w := by
  rw [show rowK true (.cat x y) = rowK true x ++ rowK true y by simp [rowK], wL_append]
  have := rowK_w true x; have := rowK_w true y
  simp only [Nd.w]; omega
theorem wL_mem {p : Nd} {l : List Nd} (h : p ∈ l) : p.w ≤ wL l := by
  induction l with
  | nil => cases h
  | cons n l ih =>
    rw [wL_cons]
    rcases List.mem_cons.mp h with rfl | h
    · omega
    · have := ih h; omega
section
variable {d : Nat} {co ol wl r : Nat} {P : List V → Hp → Prop} {Qm : QS} {nv : V}
noncomputable def ProcOk (co ol wl r : Nat) (P : List V → Hp → Prop) (nv : V) (n : Nd) : Prop := ∀ b, ∃ c, Gen (.node n) b [c] ∧ c.length ≤ n.w ∧ ∀ (rest : List V) (os : List (Option Od)) (H : Hp) (x3 x4 : V), os.length = b → rest.length + os.length + 4 * n.w ≤ 1000 →
  WS co ol wl r (rest ++ [wPut r n]) os H → (∀ H' x3 x4, WS co ol wl r rest (os ++ c.map some) H' → Exc [ol, wl] H H' → P (rho co wl nv x3 x4) H') → P (rho co wl nv x3 x4) H
theorem seqOk : ∀ (ps : List Nd), (∀ p ∈ ps, ProcOk co ol wl r P nv p) → ∀ b, ∃ cs, Gen (.seq ps) b cs ∧ cs.flatten.length ≤ wL ps ∧ ∀ (rest : List V) (os : List (Option Od)) (H : Hp) (x3 x4 : V), os.length = b → rest.length + os.length + 4 * wL ps ≤ 1000 →
    WS co ol wl r (rest ++ (ps.map (wPut r)).reverse) os H → (∀ H' x3 x4, WS co ol wl r rest (os ++ cs.flatten.map some) H' → Exc [ol, wl] H H' → P (rho co wl nv x3 x4) H') → P (rho co wl nv x3 x4) H
  | [], _, b => ⟨[], .nil b, by simp, fun rest os H x3 x4 _ _ I q => q H x3 x4 (by simpa using I) (Exc.refl _ _)⟩
  | p :: ps, h, b => by
    obtain ⟨c, g1, g2, g3⟩ := h p (.head _) b
    obtain ⟨cs, k1, k2, k3⟩ := seqOk ps (fun p hp => h p (.tail _ hp)) (b + c.length)
    refine ⟨c :: cs, .cons g1 k1, by rw [List.flatten_cons, List.length_append, wL_cons]; omega, fun rest os H x3 x4 hb hl I q => ?_⟩
    have wl' := wL_len ps
    rw [wL_cons] at hl
    rw [List.map_cons, List.reverse_cons, ← List.append_assoc] at I
    refine g3 _ os H x3 x4 hb (by simp only [List.length_append, List.length_reverse, List.length_map]; omega) I fun H' y3 y4 I' X' => ?_
    refine k3 rest _ H' y3 y4 (by simp; omega) (by simp only [List.length_append, List.length_map]; omega) I' fun H2 z3 z4 I2 X2 => ?_
    exact q H2 z3 z4 (by simpa using I2) (X'.trans X2)
theorem altOk (hP : Hit d P Qm) : ∀ (ps : List Nd), ps ≠ [] → (∀ p ∈ ps, ProcOk co ol wl r P nv p) → ∀ b, ∃ cs, Gen (.alts ps) b cs ∧ (altH b cs).length + 2 ≤ wL ps + 2 * ps.length ∧
    ∀ (e e2 : Nat), e ≠ ol → e ≠ wl → e2 ≠ ol → e2 ≠ wl → e2 ≠ e → ∀ (rest : List V) (os : List (Option Od)) (H : Hp) (x3 x4 x : V) (js : List Nat), os.length = b → js.length ≤ b → rest.length + os.length + 4 * wL ps + 8 * ps.length ≤ 1000 → WS co ol wl r (rest ++ (altI r e ps).reverse) os H → H e = some (.lst [x, .ref e2]) → H e2 = some (.lst (intsV js)) →
    (∀ H' x3 x4 x, WS co ol wl r rest (os ++ altH b cs) H' → H' e = some (.lst [x, .ref e2]) → H' e2 = some (.lst (intsV (js ++ altJ b cs))) → Exc [ol, wl, e, e2] H H' → P (rho co wl nv x3 x4) H') → P (rho co wl nv x3 x4) H
  | [], hne, _, b => absurd rfl hne
  | [p], _, h, b => by
    obtain ⟨c, g1, g2, g3⟩ := h p (.head _) b
    refine ⟨[c], .one g1, by simp only [altH, List.length_map, wL, List.map_cons, List.map_nil, List.sum_cons, List.sum_nil, List.length_cons, List.length_nil]; omega, fun e e2 n1 n2 n3 n4 n5 rest os H x3 x4 x js hb hj hl I he he2 q => ?_⟩
    simp only [wL, List.map_cons, List.map_nil, List.sum_cons, List.sum_nil] at hl
    refine g3 rest os H x3 x4 hb (by omega) I fun H' y3 y4 I' X' => ?_
    have b1 : ∀ {b : Nat} {o : MO}, H b = some o → b ≠ wl → b ≠ ol → H' b = some o := fun h h1 h2 => by rw [X' _ (by rw [h]; nofun) (by simp [h1, h2])]; exact h
    exact q H' y3 y4 x I' (b1 he n2 n1) (by simpa [altJ] using b1 he2 n4 n3) (X'.mono (by simp))
  | p :: p2 :: ps, _, h, b => by
    obtain ⟨c, g1, g2, g3⟩ := h p (.head _) (b + 1)
    obtain ⟨cs, k1, k2, k3⟩ := altOk hP (p2 :: ps) nofun (fun p hp => h p (.tail _ hp)) (b + 1 + c.length + 1)
    have hcs := k1.alts_ne
    obtain ⟨c2, cs, rfl⟩ := List.exists_cons_of_ne_nil hcs
    have eH : altH b (c :: c2 :: cs) = some (.split (b + 1 + c.length + 1)) :: (c.map some ++ none :: altH (b + 1 + c.length + 1) (c2 :: cs)) := rfl
    have eJ : altJ b (c :: c2 :: cs) = (b + 1 + c.length) :: altJ (b + 1 + c.length + 1) (c2 :: cs) := rfl
    refine ⟨c :: c2 :: cs, .more g1 k1, ?_, fun e e2 n1 n2 n3 n4 n5 rest os H x3 x4 x js hb hj hl I he he2 q => ?_⟩
    · rw [eH]
      simp only [List.length_cons, List.length_append, List.length_map, wL_cons p] at k2 ⊢
      omega
    have wl' := wL_len (p2 :: ps)
    rw [wL_cons p] at hl
    simp only [List.length_cons] at hl wl'
    have eI : (altI r e (p :: p2 :: ps)).reverse = (altI r e (p2 :: ps)).reverse ++ [wShut e] ++ [wPut r p] ++ [wOpen e] := by
      rw [show altI r e (p :: p2 :: ps) = wOpen e :: wPut r p :: wShut e :: altI r e (p2 :: ps) from rfl]
      simp
    have iL : (altI r e (p2 :: ps)).length ≤ 3 * (ps.length + 1) := by
      have : ∀ (ps : List Nd), (altI r e ps).length ≤ 3 * ps.length := by
        intro ps
        induction ps with
        | nil => simp [altI]
        | cons a ps ih => induction ps using List.casesOn with
          | nil => simp [altI]
          | cons a2 ps =>
            rw [show altI r e (a :: a2 :: ps) = wOpen e :: wPut r a :: wShut e :: altI r e (a2 :: ps) from rfl]
            simp only [List.length_cons] at ih ⊢; omega
      exact this (p2 :: ps)
    rw [eI, ← List.append_assoc, ← List.append_assoc, ← List.append_assoc] at I
    refine st_open hP I (by simp only [List.length_append, List.length_reverse, List.length_cons, List.length_nil]; omega) (by omega) he n1 n2 fun H1 y3 y4 I1 he1 X1 => ?_
    have he21 : H1 e2 = some (.lst (intsV js)) := by rw [X1 e2 (by rw [he2]; nofun) (by simp [n3, n4, n5])]; exact he2
    refine g3 _ (os ++ [none]) H1 y3 y4 (by simp; omega) (by simp only [List.length_append, List.length_reverse, List.length_cons, List.length_nil]; omega) I1 fun H2 z3 z4 I2 X2 => ?_
    have b2 : ∀ {b : Nat} {o : MO}, H1 b = some o → b ≠ wl → b ≠ ol → H2 b = some o := fun h h1 h2 => by rw [X2 _ (by rw [h]; nofun) (by simp [h1, h2])]; exact h
    have he2' := b2 he1 n2 n1
    have he22 := b2 he21 n4 n3
    refine st_shut hP (p := os.length) I2 (by simp only [List.length_append, List.length_reverse]; omega) (by simp only [List.length_append, List.length_map, List.length_cons, List.length_nil]; omega) (by omega) he2' he22 n1 n2 n3 n4 n5 (by simp) fun H3 u3 u4 I3 he3 he23 X3 => ?_
    have eo : ((os ++ [none] ++ c.map some ++ [none]).set os.length (some (.split ((os ++ [none] ++ c.map some).length + 1)))) = os ++ some (.split (b + 1 + c.length + 1)) :: (c.map some ++ [none]) := by
      rw [List.append_assoc, List.append_assoc, List.set_append_right _ _ (Nat.le_refl _)]
      simp [hb]; omega
    rw [eo] at I3
    refine k3 e e2 n1 n2 n3 n4 n5 rest _ H3 u3 u4 (.int os.length) (js ++ [(os ++ [none] ++ c.map some).length]) (by simp only [List.length_append, List.length_cons, List.length_map, List.length_nil]; omega) (by simp only [List.length_append, List.length_cons, List.length_nil]; omega)
      (by simp only [List.length_append, List.length_cons, List.length_map, List.length_nil]; omega) I3 he3 he23 fun H4 v3 v4 x' I4 he4 he24 X4 => ?_
    refine q H4 v3 v4 x' ?_ he4 ?_ ?_
    · rw [eH]; simpa using I4
    · rw [eJ]
      have : (os ++ [none] ++ c.map some).length = b + 1 + c.length := by simp [hb]; omega
      rw [this] at he24
      simpa using he24
    · exact ((X1.mono (by simp)).trans (X2.mono (by simp))).trans ((X3.mono (by simp)).trans X4)
end

section
variable {d : Nat} {co ol wl r : Nat} {P : List V → Hp → Prop} {Qm : QS} {nv : V}
theorem Exc.drop {A : List Nat} {e e2 : Nat} {H H' H2 : Hp} (h : Exc A H H') (h' : Exc (A ++ [e, e2]) H' H2) (he : H e = none) (he2 : H e2 = none) : Exc A H H2 := fun b hb ha => by
  have h1 := h b hb ha
  have : b ∉ A ++ [e, e2] := fun z => by
    rcases List.mem_append.mp z with z | z
    · exact ha z
    · rcases List.mem_cons.mp z with rfl | z
      · exact hb he
      · rcases List.mem_cons.mp z with rfl | z
        · exact hb he2
        · cases z
  rw [h' b (by rw [h1]; exact hb) this, h1]
/-- behind `begun`: the items are laid upon the stack -/
theorem WS.laid {rest its : List V} {os os' : List (Option Od)} {H H' : Hp} {n : V} (I : WS co ol wl r (rest ++ [n]) os H) (ho : H' ol = some (.lst (os'.map (ov r)))) (hx : Exc [ol] (H.set wl (.lst rest)) H') {t : Nat} (ht : H' t = none) :
    WS co ol wl r (rest ++ its.reverse) os' ((H'.set t (.lst its.reverse)).set wl (.lst (rest ++ its.reverse))) ∧ Exc [ol, wl] H ((H'.set t (.lst its.reverse)).set wl (.lst (rest ++ its.reverse))) ∧ H' wl = some (.lst rest) ∧
      ∀ {b : Nat} {o : MO}, H' b = some o → b ≠ wl → ((H'.set t (.lst its.reverse)).set wl (.lst (rest ++ its.reverse))) b = some o := by
  obtain ⟨n1, n2⟩ := I.nco
  have hco : H' co = some (codeO ol) := by rw [hx co (by rw [Hp.set_ne _ _ n1, I.hco]; nofun) (by simpa using n2), Hp.set_ne _ _ n1]; exact I.hco
  have hwl : H' wl = some (.lst rest) := by rw [hx wl (by rw [Hp.set_self]; nofun) (by simpa using I.ne.symm), Hp.set_self]
  have keep : ∀ {b : Nat} {o : MO}, H' b = some o → b ≠ wl → ((H'.set t (.lst its.reverse)).set wl (.lst (rest ++ its.reverse))) b = some o := fun h h1 => by
    rw [Hp.set_ne _ _ h1, Hp.set_ne _ _ (ne_of h ht)]; exact h
  refine ⟨⟨keep hco n1, keep ho I.ne, Hp.set_self _ _ _, I.ne⟩, fun b hb hn => ?_, hwl, keep⟩
  simp only [List.mem_cons, List.not_mem_nil, or_false, not_or] at hn
  have h1 : H' b = H b := by rw [hx b (by rw [Hp.set_ne _ _ hn.2]; exact hb) (by simpa using hn.1), Hp.set_ne _ _ hn.2]
  have nt : b ≠ t := fun e => by rw [e] at h1 hb; rw [ht] at h1; exact hb h1.symm
  rw [Hp.set_ne _ _ hn.2, Hp.set_ne _ _ nt, h1]
theorem proc_all (hP : Hit d P Qm) : ∀ (f : Nat) (n : Nd), n.w ≤ f → n.w ≤ 1000 → ProcOk co ol wl r P nv n := by
  intro f
  induction f with
  | zero => intro n h; have := n.w_pos; omega
  | succ f ih =>
    intro n hf hn b
    have simple : ∀ (n : Nd) (od : Od), (∀ (os : List V) (H : Hp) (Q' : QV), H co = some (codeO ol) → H ol = some (.lst os) → os.length ≤ 80000 → (∀ a H', H a = none → H' a = some (.lst []) → H' ol = some (.lst (os ++ [od.v r])) → Exc [ol] H H' → Q' (.ref a) H') → CN (d + 3) 70 [.ref co, n.v r] H Q') →
        ∀ (rest : List V) (os : List (Option Od)) (H : Hp) (x3 x4 : V), rest.length + os.length ≤ 1000 → WS co ol wl r (rest ++ [wPut r n]) os H →
        (∀ H' x3 x4, WS co ol wl r rest (os ++ [od].map some) H' → Exc [ol, wl] H H' → P (rho co wl nv x3 x4) H') → P (rho co wl nv x3 x4) H := by
      intro n od hb rest os H x3 x4 hl I q
      obtain ⟨n1, n2⟩ := I.nco
      refine st_put hP I (by omega) fun Q' k => ?_
      refine hb (os.map (ov r)) _ Q' (by rw [Hp.set_ne _ _ n1]; exact I.hco) (by rw [Hp.set_ne _ _ I.ne]; exact I.hol) (by simp; omega) fun a H' h1 h2 h3 h4 => ?_
      have h3' : H' ol = some (.lst ((os ++ [od].map some).map (ov r))) := by rw [h3]; simp [ov]
      refine k a [] H' h2 (by simp) (by rw [h4 wl (by rw [Hp.set_self]; nofun) (by simpa using I.ne.symm), Hp.set_self]) fun t ht x4 => ?_
      obtain ⟨l1, l2, _, _⟩ := I.laid (its := []) h3' h4 ht
      exact q _ _ _ (by simpa using l1) l2
    induction n using Nd.casesOn with
    | sg g => exact ⟨[.one g], .sg g b, by simp only [Nd.w, List.length_cons, List.length_nil]; omega, fun rest os H x3 x4 hb hl I q => simple (.sg g) (.one g) (fun os H Q' a1 a2 a3 k => c_begun_sg a1 a2 a3 k) rest os H x3 x4 (by omega) I q⟩
    | ways w => exact ⟨[.ways w], .ways w b, by simp [Nd.w], fun rest os H x3 x4 hb hl I q => simple (.ways w) (.ways w) (fun os H Q' a1 a2 a3 k => c_begun_ways a1 a2 a3 k) rest os H x3 x4 (by omega) I q⟩
    | fail => exact ⟨[.fail], .fail b, by simp [Nd.w], fun rest os H x3 x4 hb hl I q => simple .fail .fail (fun os H Q' a1 a2 a3 k => c_begun_fail a1 a2 a3 k) rest os H x3 x4 (by omega) I q⟩
    | now x =>
      simp only [Nd.w] at hf hn
      obtain ⟨c, g1, g2, g3⟩ := ih x (by omega) (by omega) (b + 1)
      refine ⟨.mark :: (c ++ [.set]), .now g1, by simp only [Nd.w, List.length_cons, List.length_append, List.length_nil]; omega, fun rest os H x3 x4 hb hl I q => ?_⟩
      simp only [Nd.w] at hl
      obtain ⟨n1, n2⟩ := I.nco
      refine st_put hP I (by omega) fun Q' k => ?_
      refine c_begun_now (by rw [Hp.set_ne _ _ n1]; exact I.hco) (by rw [Hp.set_ne _ _ I.ne]; exact I.hol) (by simp; omega) fun a H' h1 h2 h3 h4 => ?_
      have h3' : H' ol = some (.lst ((os ++ [some Od.mark]).map (ov r))) := by rw [h3]; simp [ov]
      refine k a _ H' h2 (by simp) (by rw [h4 wl (by rw [Hp.set_self]; nofun) (by simpa using I.ne.symm), Hp.set_self]) fun t ht x4 => ?_
      obtain ⟨l1, l2, _, _⟩ := I.laid (its := [wPut r x, wEmit r .set]) h3' h4 ht
      rw [show rest ++ [wPut r x, wEmit r Od.set].reverse = (rest ++ [wEmit r .set]) ++ [wPut r x] by simp] at l1 l2 ⊢
      refine g3 _ _ _ _ _ (by simp [hb]) (by simp only [List.length_append, List.length_cons, List.length_nil]; omega) l1 fun H2 y3 y4 I2 X2 => ?_
      refine st_emit hP I2 (by omega) (by simp only [List.length_append, List.length_cons, List.length_nil, List.length_map]; omega) fun H3 z3 z4 I3 X3 => ?_
      exact q H3 z3 z4 (by simpa using I3) ((l2.trans X2).trans X3)
    | arbno x =>
      simp only [Nd.w] at hf hn
      obtain ⟨c, g1, g2, g3⟩ := ih x (by omega) (by omega) (b + 3)
      refine ⟨_, .arbno g1, by simp only [Nd.w, List.length_cons, List.length_append, List.length_nil]; omega, fun rest os H x3 x4 hb hl I q => ?_⟩
      simp only [Nd.w] at hl
      obtain ⟨n1, n2⟩ := I.nco
      refine st_put hP I (by omega) fun Q' k => ?_
      refine c_begun_arbno (by rw [Hp.set_ne _ _ n1]; exact I.hco) (by rw [Hp.set_ne _ _ I.ne]; exact I.hol) (by simp; omega) fun a e e2 H' h1 he he2 hne h2 k1 k2 h3 h4 => ?_
      have h3' : H' ol = some (.lst ((os ++ [some (Od.split (b + 2)), none, some Od.mark]).map (ov r))) := by rw [h3]; simp [ov, hb]
      have hwl : H' wl = some (.lst rest) := by rw [h4 wl (by rw [Hp.set_self]; nofun) (by simpa using I.ne.symm), Hp.set_self]
      have newl : wl ≠ e := ne_of (Hp.set_self _ _ _) he
      have newl2 : wl ≠ e2 := ne_of (Hp.set_self _ _ _) he2
      have neol2 : ol ≠ e2 := ne_of (by rw [Hp.set_ne _ _ I.ne]; exact I.hol) he2
      have neol : ol ≠ e := ne_of (by rw [Hp.set_ne _ _ I.ne]; exact I.hol) he
      have he0 : H e = none := by rw [Hp.set_ne _ _ newl.symm] at he; exact he
      have he20 : H e2 = none := by rw [Hp.set_ne _ _ newl2.symm] at he2; exact he2
      refine k a _ H' h2 (by simp) hwl fun t ht x4 => ?_
      obtain ⟨l1, l2, _, l4⟩ := I.laid (its := [wPut r x, wEmit r .gain, wEmit r (.jump (os.map (ov r)).length), wMeet e]) h3' h4 ht
      rw [show rest ++ [wPut r x, wEmit r Od.gain, wEmit r (.jump (os.map (ov r)).length), wMeet e].reverse = (rest ++ [wMeet e] ++ [wEmit r (.jump (os.map (ov r)).length)] ++ [wEmit r .gain]) ++ [wPut r x] by simp] at l1 l2 l4 ⊢
      have k1' := l4 k1 newl.symm
      have k2' := l4 k2 newl2.symm
      refine g3 _ _ _ _ _ (by simp [hb]) (by simp only [List.length_append, List.length_cons, List.length_nil]; omega) l1 fun H2 y3 y4 I2 X2 => ?_
      have m1 := (X2 e (by rw [k1']; nofun) (by simp [newl.symm, neol.symm])).trans k1'
      have m2 := (X2 e2 (by rw [k2']; nofun) (by simp [newl2.symm, neol2.symm])).trans k2'
      refine st_emit hP I2 (by simp only [List.length_append, List.length_cons, List.length_nil]; omega) (by simp only [List.length_append, List.length_cons, List.length_nil, List.length_map]; omega) fun H3 z3 z4 I3 X3 => ?_
      have m3 := (X3 e (by rw [m1]; nofun) (by simp [newl.symm, neol.symm])).trans m1
      have m4 := (X3 e2 (by rw [m2]; nofun) (by simp [newl2.symm, neol2.symm])).trans m2
      refine st_emit hP I3 (by simp only [List.length_append, List.length_cons, List.length_nil]; omega) (by simp only [List.length_append, List.length_cons, List.length_nil, List.length_map]; omega) fun H4 u3 u4 I4 X4 => ?_
      have m5 := (X4 e (by rw [m3]; nofun) (by simp [newl.symm, neol.symm])).trans m3
      have m6 := (X4 e2 (by rw [m4]; nofun) (by simp [newl2.symm, neol2.symm])).trans m4
      refine st_meet hP (js := [os.length + 1]) I4 (by omega) (by simp only [List.length_append, List.length_cons, List.length_nil, List.length_map]; omega) m5 (by rw [m6]; simp [intsV]) newl.symm neol2.symm newl2.symm (by simp) fun H5 v3 v4 I5 X5 => ?_
      refine q H5 v3 v4 ?_ (((((l2.trans X2).trans X3).trans X4)).trans X5)
      have ee : meetO (os ++ [some (Od.split (b + 2)), none, some Od.mark] ++ c.map some ++ [some Od.gain] ++ [some (Od.jump (os.map (ov r)).length)]).length [os.length + 1] (os ++ [some (Od.split (b + 2)), none, some Od.mark] ++ c.map some ++ [some Od.gain] ++ [some (Od.jump (os.map (ov r)).length)]) =
          os ++ ([Od.split (b + 2), .jump (b + 3 + c.length + 2), .mark] ++ c ++ [Od.gain, Od.jump b]).map some := by
        simp only [meetO, List.foldl_cons, List.foldl_nil, List.append_assoc]
        rw [List.set_append_right _ _ (by omega), show os.length + 1 - os.length = 1 by omega]
        simp [hb]
        omega
      rw [ee] at I5
      exact I5
    | cat x y =>
      have w3 := @rowK_w3 x y
      have jw := joinL_w (rowK true (.cat x y))
      obtain ⟨cs, g1, g2, g3⟩ := seqOk (joinL (rowK true (.cat x y))) (fun p hp => ih p (by have := wL_mem hp; omega) (by have := wL_mem hp; omega)) b
      have jl := wL_len (joinL (rowK true (.cat x y)))
      refine ⟨cs.flatten, .cat g1, by omega, fun rest os H x3 x4 hb hl I q => ?_⟩
      obtain ⟨n1, n2⟩ := I.nco
      refine st_put hP I (by omega) fun Q' k => ?_
      refine c_begun_cat hn fun a H' h1 h2 h4 => ?_
      have h3' : H' ol = some (.lst (os.map (ov r))) := by rw [h4 ol (by rw [Hp.set_ne _ _ I.ne, I.hol]; nofun), Hp.set_ne _ _ I.ne]; exact I.hol
      have hwl : H' wl = some (.lst rest) := by rw [h4 wl (by rw [Hp.set_self]; nofun), Hp.set_self]
      refine k a _ H' h2 (by simp; omega) hwl fun t ht x4 => ?_
      obtain ⟨l1, l2, _, _⟩ := I.laid (its := (joinL (rowK true (.cat x y))).map (wPut r)) h3' h4.exc ht
      refine g3 rest os _ _ _ hb (by omega) l1 fun H2 y3 y4 I2 X2 => ?_
      exact q H2 y3 y4 I2 (l2.trans X2)
    | alt x y =>
      have w2 := @rowK_w4 x y
      obtain ⟨ns, last, hr⟩ : ∃ ns last, rowK false (.alt x y) = ns ++ [last] := by
        rcases List.eq_nil_or_concat (rowK false (.alt x y)) with h | ⟨a, z, h⟩
        · exact absurd h (rowK_ne _ _)
        · exact ⟨a, z, by simpa using h⟩
      have hm : ∀ p ∈ ns ++ [last], p.w ≤ f ∧ p.w ≤ 1000 := fun p hp => by
        have h1 := wL_mem hp
        rw [hr] at w2
        have : 2 ≤ (ns ++ [last]).length := by
          rw [← hr, show rowK false (.alt x y) = rowK false x ++ rowK false y by simp [rowK], List.length_append]
          have := List.length_pos_iff.mpr (rowK_ne false x); have := List.length_pos_iff.mpr (rowK_ne false y)
          omega
        omega
      obtain ⟨cs, g1, g2, g3⟩ := altOk (co := co) (ol := ol) (wl := wl) (r := r) (P := P) (nv := nv) hP (ns ++ [last]) (by simp) (fun p hp => ih p (hm p hp).1 (hm p hp).2) b
      rw [hr] at w2
      have g1' : Gen (.alts (rowK false (.alt x y))) b cs := by rw [hr]; exact g1
      have wl' := wL_len (ns ++ [last])
      refine ⟨_, .alt g1', by rw [← altH_len]; omega, fun rest os H x3 x4 hb hl I q => ?_⟩
      obtain ⟨n1, n2⟩ := I.nco
      refine st_put hP I (by omega) fun Q' k => ?_
      refine c_begun_alt hn hr (fun a e e2 H' h1 he he2 hne h2 k1 k2 h4 => ?_) (by rw [Hp.set_ne _ _ n1]; exact I.hco)
      have h3' : H' ol = some (.lst (os.map (ov r))) := by rw [h4 ol (by rw [Hp.set_ne _ _ I.ne, I.hol]; nofun), Hp.set_ne _ _ I.ne]; exact I.hol
      have hwl : H' wl = some (.lst rest) := by rw [h4 wl (by rw [Hp.set_self]; nofun), Hp.set_self]
      have newl : wl ≠ e := ne_of (Hp.set_self _ _ _) he
      have newl2 : wl ≠ e2 := ne_of (Hp.set_self _ _ _) he2
      have neol2 : ol ≠ e2 := ne_of (by rw [Hp.set_ne _ _ I.ne]; exact I.hol) he2
      have neol : ol ≠ e := ne_of (by rw [Hp.set_ne _ _ I.ne]; exact I.hol) he
      have he0 : H e = none := by rw [Hp.set_ne _ _ newl.symm] at he; exact he
      have he20 : H e2 = none := by rw [Hp.set_ne _ _ newl2.symm] at he2; exact he2
      have il : (altI r e (ns ++ [last]) ++ [wMeet e]).length ≤ 10000 := by
        rw [altI_eq]
        have := tri_len r e ns
        simp only [List.length_append, List.length_cons, List.length_nil] at wl' ⊢
        omega
      refine k a _ H' h2 il hwl fun t ht x4 => ?_
      obtain ⟨l1, l2, _, l4⟩ := I.laid (its := altI r e (ns ++ [last]) ++ [wMeet e]) h3' h4.exc ht
      rw [show rest ++ (altI r e (ns ++ [last]) ++ [wMeet e]).reverse = (rest ++ [wMeet e]) ++ (altI r e (ns ++ [last])).reverse by simp] at l1 l2 l4 ⊢
      refine g3 e e2 neol.symm newl.symm neol2.symm newl2.symm hne.symm _ os _ _ _ _ [] hb (Nat.zero_le _) (by simp only [List.length_append, List.length_cons, List.length_nil] at wl' w2 ⊢; omega) l1 (l4 k1 newl.symm) (l4 k2 newl2.symm) fun H2 y3 y4 x' I2 k3 k4 X2 => ?_
      have lt := altJ_lt cs b
      refine st_meet hP (js := altJ b cs) I2 (by omega) (by simp only [List.length_append]; omega) k3 (by simpa using k4) newl.symm neol2.symm newl2.symm (fun j hj => by have := lt j hj; simp only [List.length_append]; omega) fun H3 z3 z4 I3 X3 => ?_
      refine q H3 z3 z4 ?_ ((Exc.drop (A := [ol, wl]) l2 X2 he0 he20).trans X3)
      rw [show (os ++ altH b cs).length = b + (altH b cs).length by simp [hb], fill _ cs b os hb] at I3
      exact I3
end

section
variable {H : Hp} {d : Nat} {Q : QV} {co ol r : Nat}
theorem c_put {n : Nd} (hn : 4 * n.w + 1 ≤ 1000) (hco : H co = some (codeO ol)) (hol : H ol = some (.lst [])) (q : ∀ c H', Gen (.node n) 0 [c] → c.length ≤ n.w → H' co = some (codeO ol) → H' ol = some (.lst (c.map (Od.v r))) → Exc [ol] H H' → Q .none H') :
    CN (d + 4) 65 [.ref co, n.v r] H Q := by
  refine callF (P := P_PatternCode_put) rfl rfl rfl ?_
  simp only [P_PatternCode_put, lq_nd, sCons, sAsg, pVal, pLoc, pTup, pList, pNil, pCons, retV, atMost, consV, consK, tupK, listK, seqK, asgK, List.getElem?_cons_succ, List.getElem?_cons_zero, List.set_cons_succ, List.set_cons_zero, List.replicate_succ, List.replicate_zero, List.cons_append, List.nil_append]
  intro wl hwl
  refine w_while fun P hP => ?_
  have n1 : co ≠ wl := ne_of hco hwl
  have n2 : ol ≠ wl := ne_of hol hwl
  obtain ⟨c, g1, g2, g3⟩ := proc_all (co := co) (ol := ol) (wl := wl) (r := r) (nv := n.v r) hP n.w n (Nat.le_refl _) (by omega) 0
  refine g3 [] [] _ .un .un rfl (by simp only [List.length_nil]; omega) ⟨by rw [Hp.set_ne _ _ n1]; exact hco, by rw [Hp.set_ne _ _ n2]; exact hol, by rw [Hp.set_self]; rfl, n2⟩ fun H' x3 x4 I X => ?_
  refine hP _ _ ?_
  simp only [wst, T_PatternCode_put_1, B_PatternCode_put_2, sCons, sNil, sIf, sTwo, pVal, pLoc, pNil, pCons, pBlt, bLen, lenV, pLm, isLst, onLst, bPop, tCmp, bLt, bEq, two, optQ_some, cmpV, cmpK, consV, consK, bltK, isLstI_lst, lmK2, lmK, onLstI_lst, lenI_lst, seqK, twoK2, twoK, List.getElem?_cons_succ, List.getElem?_cons_zero, List.set_cons_succ, List.set_cons_zero, List.length_nil, Nat.zero_le, true_and, I.hwl]
  refine q c H' g1 g2 I.hco (by rw [I.hol]; simp [ov]) fun b hb hn' => ?_
  have nb : b ≠ wl := fun e => by rw [e] at hb; exact hb hwl
  rw [X b (by rw [Hp.set_ne _ _ nb]; exact hb) (by simp only [List.mem_cons, List.not_mem_nil, or_false] at hn' ⊢; simp [hn', nb]), Hp.set_ne _ _ nb]

/-! jumps upon jumps -/
structure JOk (os : List Od) : Prop where
  hj : ∀ (g g' : Nat), os[g]? = some (Od.jump g') → g' < os.length ∧ (g < g' ∨ ∃ t, os[g']? = some (Od.split t))
  hs : ∀ (g g' : Nat), os[g]? = some (Od.split g') → g' < os.length
noncomputable def res (os : List Od) : Nat → Nat → Nat
  | 0, g => g
  | k + 1, g => match os[g]? with
    | some (.jump g') => res os k g'
    | _ => g
noncomputable def str1 (os : List Od) : Od → Od
  | .jump g => .jump (res os (os.length + 2) g)
  | .split g => .split (res os (os.length + 2) g)
  | od => od
noncomputable def jm (os : List Od) (g : Nat) : Nat := match os[g]? with
  | some (.jump _) => os.length - g + 1
  | _ => 0
theorem jm_lt {os : List Od} (h : JOk os) {g g' : Nat} (e : os[g]? = some (.jump g')) : jm os g' < jm os g := by
  obtain ⟨h1, h2⟩ := h.hj g g' e
  have hg := (List.getElem?_eq_some_iff.mp e).1
  have e1 : jm os g = os.length - g + 1 := by unfold jm; rw [e]
  rw [e1]
  unfold jm
  rcases h2 with h2 | ⟨t, h2⟩
  · split <;> omega
  · rw [h2]; dsimp only; omega
theorem jm_le (os : List Od) (g : Nat) : jm os g ≤ os.length + 1 := by unfold jm; split <;> omega
theorem Od.v_jump {r : Nat} {od : Od} : (∃ g, od = .jump g ∧ od.v r = .tup [.str [106, 117, 109, 112], .int g]) ∨ (∃ g, od = .split g ∧ od.v r = .tup [.str [115, 112, 108, 105, 116], .int g]) ∨
    (∃ w rest, od.v r = .tup (.str w :: rest) ∧ (w == [106, 117, 109, 112]) = false ∧ (w == [115, 112, 108, 105, 116]) = false ∧ rest.length ≤ 10 ∧ ∀ os, str1 os od = od) ∧ (∀ g, od ≠ .jump g) := by
  induction od using Od.casesOn with
  | jump g => exact .inl ⟨g, rfl, rfl⟩
  | split g => exact .inr (.inl ⟨g, rfl, rfl⟩)
  | one g => exact .inr (.inr ⟨⟨_, _, rfl, rfl, rfl, by simp, fun _ => rfl⟩, nofun⟩)
  | ways g => exact .inr (.inr ⟨⟨_, _, rfl, rfl, rfl, by simp, fun _ => rfl⟩, nofun⟩)
  | _ => exact .inr (.inr ⟨⟨_, _, rfl, rfl, rfl, by simp, fun _ => rfl⟩, nofun⟩)
theorem c_straight {os : List Od} (h : JOk os) (hl : os.length ≤ 10000) (hol : H ol = some (.lst (os.map (Od.v r)))) (q : ∀ a H', H a = none → H' a = some (.lst ((os.map (str1 os)).map (Od.v r))) → Ext H H' → Q (.ref a) H') : CN (d + 1) 105 [.ref ol] H Q := by
  refine callF (P := P_straightened) rfl rfl rfl ?_
  simp only [P_straightened, sFor, sCons, sAsg, pLoc, pList, pNil, retV, atMost, listK, seqK, asgK, onList, List.getElem?_cons_zero, List.set_cons_succ, List.set_cons_zero, List.replicate_succ, List.replicate_zero, List.cons_append, List.nil_append]
  intro a ha
  have na : ol ≠ a := ne_of hol ha
  simp only [Hp.set_ne _ _ na, hol]
  have goal : ∀ (P : List V → Hp → Prop) (Qm : QS) (x : V) (H' : Hp), H' ol = some (.lst (os.map (Od.v r))) → (∀ ρ H, wst T_straightened_1 B_straightened_2 (CN d) P Qm ρ H → P ρ H) → ∀ (k g : Nat), jm os g ≤ k → g < os.length →
      (Qm .next [.ref ol, .ref a, x, .int (res os k g), .un, .un] H') → P [.ref ol, .ref a, x, .int g, .un, .un] H' := by
    intro P Qm x H' ho hP k
    induction k with
    | zero =>
      intro g hg hgl q
      refine hP _ _ ?_
      have e : (os.map (Od.v r))[g]? = some (os[g].v r) := by simp [hgl]
      simp only [wst, T_straightened_1, B_straightened_2, sCons, sAsg, pLoc, pOp2, tCmp, bIdx, op2V, op2K, List.getElem?_cons_succ, List.getElem?_cons_zero, ho, List.length_map, Int.toNat_natCast]
      rw [if_pos ⟨nn _, by omega⟩, e]
      rcases @Od.v_jump r os[g] with ⟨g', e1, _⟩ | ⟨g', e1, e2⟩ | ⟨⟨w, rest, e2, e3, e4, e5, _⟩, _⟩
      · have : jm os g' < jm os g := jm_lt h (by rw [List.getElem?_eq_getElem hgl, e1])
        omega
      · simp only [e2, pVal, bEq, bIdx, optQ_some, op2V, op2K, cmpV, cmpK, List.getElem?_cons_zero, List.length_cons, List.length_nil, nb2, nb4, Nat.reduceBEq, Nat.reduceAdd, Nat.reduceLeDiff, Int.reduceToNat, Int.le_refl, Bool.and_false, and_true, reduceIte]
        exact q
      · simp only [e2, pVal, bIdx, optQ_some, op2V, op2K, List.getElem?_cons_zero, List.length_cons, Nat.reduceLeDiff, Int.reduceToNat, Int.le_refl, true_and]
        rw [if_pos (by omega)]
        simp only [e3, pVal, bEq, optQ_some, cmpV, cmpK]
        exact q
    | succ k ih =>
      intro g hg hgl q
      refine hP _ _ ?_
      have e : (os.map (Od.v r))[g]? = some (os[g].v r) := by simp [hgl]
      simp only [wst, T_straightened_1, B_straightened_2, sCons, sAsg, pLoc, pOp2, tCmp, bIdx, op2V, op2K, List.getElem?_cons_succ, List.getElem?_cons_zero, ho, List.length_map, Int.toNat_natCast]
      rw [if_pos ⟨nn _, by omega⟩, e]
      have q' := q
      unfold res at q
      rw [List.getElem?_eq_getElem hgl] at q
      rcases @Od.v_jump r os[g] with ⟨g', e1, e2⟩ | ⟨g', e1, e2⟩ | ⟨⟨w, rest, e2, e3, e4, e5, _⟩, e6⟩
      · have e7 : os[g]? = some (.jump g') := by rw [List.getElem?_eq_getElem hgl, e1]
        have := jm_lt h e7
        simp only [e2, pVal, bEq, bIdx, optQ_some, op2V, op2K, cmpV, cmpK, List.getElem?_cons_zero, List.length_cons, List.length_nil, nb3, nb4, Nat.reduceBEq, Nat.reduceAdd, Nat.reduceLeDiff, Int.reduceToNat, Int.le_refl, Bool.and_true, and_true, reduceIte, ho, List.length_map]
        rw [if_pos ⟨nn _, by omega⟩, e]
        simp only [e2, sNil, pVal, bIdx, optQ_some, op2V, op2K, seqK, asgK, List.getElem?_cons_succ, List.getElem?_cons_zero, List.set_cons_succ, List.set_cons_zero, List.length_cons, List.length_nil, Nat.reduceAdd, Nat.reduceLeDiff, Int.reduceLE, Int.reduceToNat, and_true, reduceIte]
        rw [e1] at q
        exact ih g' (by omega) (h.hj g g' e7).1 q
      · simp only [e2, pVal, bEq, bIdx, optQ_some, op2V, op2K, cmpV, cmpK, List.getElem?_cons_zero, List.length_cons, List.length_nil, nb2, nb4, Nat.reduceBEq, Nat.reduceAdd, Nat.reduceLeDiff, Int.reduceToNat, Int.le_refl, Bool.and_false, and_true, reduceIte]
        rw [e1] at q
        exact q
      · simp only [e2, pVal, bIdx, optQ_some, op2V, op2K, List.getElem?_cons_zero, List.length_cons, Nat.reduceLeDiff, Int.reduceToNat, Int.le_refl, true_and]
        rw [if_pos (by omega)]
        simp only [e3, pVal, bEq, optQ_some, cmpV, cmpK]
        split at q
        · rename_i g' e8; exact absurd (Option.some.inj e8) (e6 g')
        · exact q
  have key : ∀ (Qm : QS) (rest acc : List Od) (x y : V) (H' : Hp), (∀ od ∈ rest, ∃ g : Nat, os[g]? = some od) → acc.length + rest.length ≤ 10000 → H' a = some (.lst (acc.map (Od.v r))) → Ext H H' →
      (∀ x y H', H' a = some (.lst ((acc ++ rest.map (str1 os)).map (Od.v r))) → Ext H H' → Qm .next [.ref ol, .ref a, x, y, .un, .un] H') →
      forL ol (os.map (Od.v r)) 2 B_straightened_3 (rest.map (Od.v r)) (CN d) [.ref ol, .ref a, x, y, .un, .un] H' Qm := by
    intro Qm rest
    induction rest with
    | nil => intro acc x y H' h1 h2 h3 h4 q; exact ⟨by rw [h4 ol (by rw [hol]; nofun)]; exact hol, q x y H' (by simpa using h3) h4⟩
    | cons od rest ih =>
      intro acc x y H' h1 h2 h3 h4 q
      simp only [List.length_cons] at h2
      have ho : H' ol = some (.lst (os.map (Od.v r))) := by rw [h4 ol (by rw [hol]; nofun)]; exact hol
      refine forL_cons ho fun Kf k1 _ _ => ?_
      have fin : ∀ y, Kf .next [.ref ol, .ref a, (str1 os od).v r, y, .un, .un] (H'.set a (.lst (acc.map (Od.v r) ++ [(str1 os od).v r]))) := by
        intro y
        rw [k1]
        refine ih (acc ++ [str1 os od]) _ _ _ (fun od' ho' => h1 od' (.tail _ ho')) (by simp only [List.length_append, List.length_cons, List.length_nil]; omega) (by rw [Hp.set_self]; simp) (h4.set ha _) fun x y H' g1 g2 => q x y H' ?_ g2
        rw [List.map_cons]
        simpa using g1
      obtain ⟨p, hp⟩ := h1 od (.head _)
      rcases @Od.v_jump r od with ⟨g', e1, e2⟩ | ⟨g', e1, e2⟩ | ⟨⟨w, rest', e2, e3, e4, e5, e6⟩, e7⟩
      · subst e1
        simp only [B_straightened_3, e2, sCons, sAsg, sIf, pVal, pLoc, pOp2, pTup, pNil, pCons, tCmp, bIn, bIdx, atMost, optQ_some, op2V, op2K, cmpV, cmpK, consV, consK, tupK, seqK, ifK, asgK, strsOf, List.getElem?_cons_succ, List.getElem?_cons_zero, List.set_cons_succ, List.set_cons_zero, List.length_cons, List.length_nil, nb1, nb3, nb4, Nat.reduceBEq, Nat.reduceAdd, Nat.reduceLeDiff, Int.reduceLE, Int.reduceToNat, Int.le_refl, Bool.and_true, Bool.and_false, List.contains_cons, List.contains_nil, Bool.or_false, and_true, Option.map_some, reduceIte]
        refine w_while fun P hP => ?_
        refine goal P _ _ H' ho hP (os.length + 2) g' (by have := jm_le os g'; omega) (h.hj p g' hp).1 ?_
        simp only [h3, sCons, sNil, sExp, sAsg, pVal, pLoc, pOp2, pTup, pNil, pCons, pLm, isLst, onLst, bAppend, bIdx, atMost, optQ_some, op2V, op2K, consV, consK, tupK, isLstI_lst, lmK2, lmK, onLstI_lst, seqK, expK, asgK, List.getElem?_cons_succ, List.getElem?_cons_zero, List.set_cons_succ, List.set_cons_zero, List.length_cons, List.length_nil, Nat.reduceAdd, Nat.reduceLeDiff, Int.reduceToNat, Int.le_refl, and_true, reduceIte, List.length_map]
        exact ⟨by omega, fin _⟩
      · subst e1
        simp only [B_straightened_3, e2, sCons, sAsg, sIf, pVal, pLoc, pOp2, pTup, pNil, pCons, tCmp, bIn, bIdx, atMost, optQ_some, op2V, op2K, cmpV, cmpK, consV, consK, tupK, seqK, ifK, asgK, strsOf, List.getElem?_cons_succ, List.getElem?_cons_zero, List.set_cons_succ, List.set_cons_zero, List.length_cons, List.length_nil, nb2, nb3, nb4, Nat.reduceBEq, Nat.reduceAdd, Nat.reduceLeDiff, Int.reduceLE, Int.reduceToNat, Int.le_refl, Bool.and_true, Bool.and_false, List.contains_cons, List.contains_nil, Bool.or_false, Bool.or_true, and_true, Option.map_some, reduceIte]
        refine w_while fun P hP => ?_
        refine goal P _ _ H' ho hP (os.length + 2) g' (by have := jm_le os g'; omega) (h.hs p g' hp) ?_
        simp only [h3, sCons, sNil, sExp, sAsg, pVal, pLoc, pOp2, pTup, pNil, pCons, pLm, isLst, onLst, bAppend, bIdx, atMost, optQ_some, op2V, op2K, consV, consK, tupK, isLstI_lst, lmK2, lmK, onLstI_lst, seqK, expK, asgK, List.getElem?_cons_succ, List.getElem?_cons_zero, List.set_cons_succ, List.set_cons_zero, List.length_cons, List.length_nil, Nat.reduceAdd, Nat.reduceLeDiff, Int.reduceToNat, Int.le_refl, and_true, reduceIte, List.length_map]
        exact ⟨by omega, fin _⟩
      · have f := fin y
        rw [e6 os, e2] at f
        simp only [B_straightened_3, e2, sCons, sIf, pVal, pLoc, pOp2, tCmp, bIdx, op2V, op2K, List.getElem?_cons_succ, List.getElem?_cons_zero, List.set_cons_succ, List.set_cons_zero, List.length_cons, Nat.reduceLeDiff, Int.reduceToNat, Int.le_refl, true_and]
        rw [if_pos (by omega)]
        simp only [e3, e4, h3, sCons, sNil, sExp, pVal, pLoc, pTup, pNil, pCons, pLm, isLst, onLst, bAppend, bIn, atMost, optQ_some, cmpV, cmpK, consV, consK, tupK, isLstI_lst, lmK2, lmK, onLstI_lst, seqK, expK, ifK, strsOf, List.getElem?_cons_succ, List.getElem?_cons_zero, List.contains_cons, List.contains_nil, Bool.or_false, Option.map_some, List.length_map]
        exact ⟨by omega, f⟩
  exact key _ os [] _ _ _ (fun od ho => (List.mem_iff_getElem?.mp ho)) (by simpa using hl) (by rw [Hp.set_self]; rfl) ((Ext.refl H).set ha _) fun x y H' g1 g2 => q a H' ha (by simpa using g1) g2
theorem c_compile {n : Nd} (hn : 4 * n.w + 1 ≤ 1000) (hj : ∀ c, Gen (.node n) 0 [c] → JOk (c ++ [.done]))
    (q : ∀ c a H', Gen (.node n) 0 [c] → c.length ≤ n.w → H a = none → H' a = some (.lst (((c ++ [Od.done]).map (str1 (c ++ [Od.done]))).map (Od.v r))) → Ext H H' → Q (.ref a) H') : CN (d + 5) 112 [n.v r] H Q := by
  refine callF (P := P_compile_pattern) rfl rfl rfl ?_
  simp only [P_compile_pattern, sCons, sAsg, pNil, pCall, retV, callK, List.replicate_succ, List.replicate_zero, List.cons_append, List.nil_append]
  refine callI (fI := 51) (P := P_PatternCode_init) rfl rfl rfl fun co hco => ?_
  simp only [P_PatternCode_init, sCons, sExp, sPut, pLoc, pList, pNil, putQ, pMeth, methQ, retV, atMost, listK, methK, seqK, asgK, putK2, putK, List.getElem?_cons_succ, List.getElem?_cons_zero, List.set_cons_succ, List.set_cons_zero, List.replicate_zero, List.cons_append, List.nil_append]
  intro ol hol
  obtain ⟨n1, n2⟩ := none_set hol
  simp only [sNil, pLoc, pNil, pCons, getF, putF, atMost, consV, consK, putI_ins, methI_ins, methK3, methK2, seqK, nextK, List.getElem?_cons_zero, Nat.reduceBEq, true_and, Hp.set_self, at_94_0, me_94_19, na_94_19, Hp.set_ne _ _ n1.symm, lq_nd]
  have hco1 : (((H.set co (MO.ins 94 [])).set ol (MO.lst [])).set co (MO.ins 94 [(0, V.ref ol)])) co = some (codeO ol) := Hp.set_self _ _ _
  have hol1 : (((H.set co (MO.ins 94 [])).set ol (MO.lst [])).set co (MO.ins 94 [(0, V.ref ol)])) ol = some (.lst []) := by rw [Hp.set_ne _ _ n1, Hp.set_self]
  have X0 : Ext H (((H.set co (MO.ins 94 [])).set ol (MO.lst [])).set co (MO.ins 94 [(0, V.ref ol)])) := (((Ext.refl H).set hco _).set n2 _).set hco _
  refine c_put hn hco1 hol1 fun c H1 g1 g2 g3 g4 X1 => ?_
  have m1 : co ≠ ol := n1.symm
  simp only [sCons, sExp, pVal, pLoc, pTup, pNil, pCons, pMeth, methQ, getF, atMost, consV, consK, tupK, methI_ins, methK3, methK2, methK, seqK, expK, List.getElem?_cons_succ, List.getElem?_cons_zero, Nat.reduceBEq, g3, codeO, me_94_18, na_94_18]
  refine c_emit (d := d + 3) (v := Od.done.v r) (ol := ol) (os := c.map (Od.v r)) nofun g3 g4 (by simp; omega) ?_
  simp only [sCons, sRet, pLoc, pNil, pCons, pAttr, attrQ, pCall, getF, consV, consK, attrI_ins, attrK, callK, seqK, expK, List.getElem?_cons_succ, List.getElem?_cons_zero, Nat.reduceBEq, Hp.set_ne _ _ m1, g3, codeO, at_94_0]
  refine c_straight (r := r) (os := c ++ [.done]) (hj c g1) (by simp; omega) (by rw [Hp.set_self]; simp) fun a H2 h1 h2 X2 => ?_
  have X : Ext H (H1.set ol (.lst (c.map (Od.v r) ++ [Od.done.v r]))) := fun b hb => by
    have nb : b ≠ ol := fun e => hb (e ▸ n2)
    rw [Hp.set_ne _ _ nb, X1 b (by rw [X0 b hb]; exact hb) (by simpa using nb)]; exact X0 b hb
  exact q c a H2 g1 g2 (X.none h1) h2 (X.trans X2)
theorem c_match {n : Nd} (hn : 4 * n.w + 1 ≤ 1000) (hj : ∀ c, Gen (.node n) 0 [c] → JOk (c ++ [.done])) {s : List Nat} {h dv rf lg : Nat} (hs : s.length ≤ 1000) (hh : H h = some (hostO dv rf lg 0)) (hdv : H dv = some (.dic 0)) (hrf : H rf = some (.lst []))
    (hlg : H lg = some (.lst [])) (hr : ∃ x y, H r = some (.ins 208 [(15, x), (16, y), (17, .str [86])])) (n2 : lg ≠ rf)
    {L0 : List (List Nat)} (hx : ∀ c, Gen (.node n) 0 [c] → ∃ k, k ≤ 97000 ∧ Ex ((c ++ [Od.done]).map (str1 (c ++ [Od.done]))) s [⟨0, 0, []⟩] k L0)
    (q : ∀ st H', H' h = some (hostO dv rf lg st) → H' lg = some (.lst (L0.map entV)) → (∀ b, H b ≠ none → b ≠ h → b ≠ dv → b ≠ lg → H' b = H b) → Q .none H') : CN (d + 8) 551 [n.v r, .str s, .bool true, .ref h] H Q := by
  refine callF (P := P_match_compiled) rfl rfl rfl ?_
  simp only [P_match_compiled, sCons, sRet, pLoc, pNil, pCons, pCall, retV, consV, consK, callK, List.getElem?_cons_zero, List.replicate_succ, List.replicate_zero, List.cons_append, List.nil_append, lq_nd]
  refine c_compile (d := d + 2) hn hj fun c a H' g1 g2 g3 g4 X => ?_
  obtain ⟨k, hk, hx⟩ := hx c g1
  have X' : ∀ {b : Nat} {o : MO}, H b = some o → H' b = some o := fun h => by rw [X _ (by rw [h]; nofun)]; exact h
  obtain ⟨x, y, hr⟩ := hr
  refine c_match_orders hs (by simp; omega) (X' hh) (X' hdv) (X' hrf) (X' hlg) g4 ⟨x, y, X' hr⟩ (ne_of hlg g3) n2 hx hk fun st H2 h1 h2 h3 => ?_
  exact q st H2 h1 h2 fun b hb e1 e2 e3 => (h3 b (by rw [X b hb]; exact hb) e1 e2 e3).trans (X b hb)
end

/-! the ways of a pattern -/
noncomputable def arbE (f : Nat → List Nat) : Nat → Nat → List Nat
  | 0, i => [i]
  | k + 1, i => i :: (f i).flatMap fun e => if i < e then arbE f k e else []
noncomputable def arbC (f : Nat → List Nat) (c : Nat → Nat) : Nat → Nat → Nat
  | 0, i => 3 + c i + (f i).length
  | k + 1, i => 3 + c i + ((f i).map fun e => if i < e then 2 + arbC f c k e else 1).sum
noncomputable def endsN (s : List Nat) : Nd → Nat → List Nat
  | .sg g, i => (g.fin s i).toList
  | .ways b, i => waysE s i b
  | .cat x y, i => (endsN s x i).flatMap (endsN s y)
  | .alt x y, i => endsN s x i ++ endsN s y i
  | .arbno x, i => arbE (endsN s x) (s.length - i) i
  | .now x, i => endsN s x i
  | .fail, _ => []
noncomputable def costN (s : List Nat) : Nd → Nat → Nat
  | .sg _, _ => 1
  | .ways _, _ => 1
  | .cat x y, i => costN s x i + ((endsN s x i).map (costN s y)).sum
  | .alt x y, i => costN s x i + costN s y i + 1 + (endsN s x i).length
  | .arbno x, i => arbC (endsN s x) (costN s x) (s.length - i) i
  | .now x, _ => 0
  | .fail, _ => 1
theorem fin_bd {s : List Nat} {g : Sg} {i e : Nat} (hi : i ≤ s.length) (h : g.fin s i = some e) : i ≤ e ∧ e ≤ s.length := by
  induction g using Sg.casesOn <;> simp only [Sg.fin] at h <;> split at h <;> cases h
  · rename_i l h
    have := congrArg List.length h
    simp only [List.length_take, List.length_drop] at this
    omega
  all_goals omega
theorem balEs_bd {s : List Nat} : ∀ (n i e : Nat), i ≤ s.length → e ∈ balEs s n i → i ≤ e ∧ e ≤ s.length
  | 0, i, e, _, h => nomatch h
  | n + 1, i, e, hi, h => by
    unfold balEs at h
    split at h
    · rename_i e' he
      have := balE_gt he
      rcases List.mem_cons.mp h with rfl | h
      · omega
      · have := balEs_bd n e' e (by omega) h; omega
    · cases h
theorem waysE_bd {s : List Nat} {w : Bool} {i e : Nat} (hi : i ≤ s.length) (h : e ∈ waysE s i w) : i ≤ e ∧ e ≤ s.length := by
  induction w using Bool.casesOn with
  | true =>
    obtain ⟨j, hj, rfl⟩ := List.mem_map.mp h
    have := List.mem_range.mp hj
    omega
  | false => exact balEs_bd _ _ _ hi h
theorem arbE_bd {f : Nat → List Nat} {n : Nat} (hf : ∀ i, i ≤ n → ∀ e ∈ f i, i ≤ e ∧ e ≤ n) : ∀ (k i : Nat), i ≤ n → ∀ e ∈ arbE f k i, i ≤ e ∧ e ≤ n
  | 0, i, hi, e, h => by simp [arbE] at h; omega
  | k + 1, i, hi, e, h => by
    unfold arbE at h
    rcases List.mem_cons.mp h with rfl | h
    · omega
    · obtain ⟨e', h1, h2⟩ := List.mem_flatMap.mp h
      have := hf i hi e' h1
      split at h2
      · have := arbE_bd hf k e' (by omega) e h2; omega
      · cases h2
theorem endsN_bd {s : List Nat} : ∀ (n : Nd) (i : Nat), i ≤ s.length → ∀ e ∈ endsN s n i, i ≤ e ∧ e ≤ s.length
  | .sg g, i, hi, e, h => fin_bd hi (by simpa [endsN] using h)
  | .ways b, i, hi, e, h => waysE_bd hi h
  | .cat x y, i, hi, e, h => by
    obtain ⟨e', h1, h2⟩ := List.mem_flatMap.mp h
    have := endsN_bd x i hi e' h1
    have := endsN_bd y e' this.2 e h2
    omega
  | .alt x y, i, hi, e, h => by
    rcases List.mem_append.mp h with h | h
    · exact endsN_bd x i hi e h
    · exact endsN_bd y i hi e h
  | .arbno x, i, hi, e, h => arbE_bd (fun i hi e he => endsN_bd x i hi e he) _ i hi e h
  | .now x, i, hi, e, h => endsN_bd x i hi e h
  | .fail, i, hi, e, h => nomatch h

/-! rows of parts -/
noncomputable def seqE (s : List Nat) : List Nd → Nat → List Nat
  | [], i => [i]
  | p :: ps, i => (endsN s p i).flatMap (seqE s ps)
noncomputable def seqC (s : List Nat) : List Nd → Nat → Nat
  | [], _ => 0
  | p :: ps, i => costN s p i + ((endsN s p i).map (seqC s ps)).sum
noncomputable def altE (s : List Nat) (l : List Nd) (i : Nat) : List Nat := l.flatMap fun p => endsN s p i
noncomputable def altC (s : List Nat) : List Nd → Nat → Nat
  | [], _ => 0
  | [p], i => costN s p i
  | p :: ps, i => 1 + costN s p i + (endsN s p i).length + altC s ps i
theorem seqE_append (s : List Nat) : ∀ (l l' : List Nd) (i : Nat), seqE s (l ++ l') i = (seqE s l i).flatMap (seqE s l')
  | [], l', i => by simp [seqE]
  | p :: ps, l', i => by
    simp only [List.cons_append, seqE, List.flatMap_assoc]
    congr 1
    funext e
    exact seqE_append s ps l' e
theorem sum_map_flatMap (f : Nat → List Nat) (g : Nat → Nat) : ∀ l : List Nat, ((l.flatMap f).map g).sum = (l.map fun e => ((f e).map g).sum).sum
  | [] => rfl
  | e :: l => by simp [sum_map_flatMap f g l]
theorem sum_map_add (f g : Nat → Nat) : ∀ l : List Nat, (l.map fun e => f e + g e).sum = (l.map f).sum + (l.map g).sum
  | [] => rfl
  | e :: l => by simp [sum_map_add f g l]; omega
theorem sum_map_le {f g : Nat → Nat} : ∀ {l : List Nat}, (∀ e ∈ l, f e ≤ g e) → (l.map f).sum ≤ (l.map g).sum
  | [], _ => Nat.le_refl _
  | e :: l, h => by
    have := h e (.head _)
    have := sum_map_le (l := l) fun e he => h e (.tail _ he)
    simp only [List.map_cons, List.sum_cons]; omega
theorem seqC_append (s : List Nat) : ∀ (l l' : List Nd) (i : Nat), seqC s (l ++ l') i = seqC s l i + ((seqE s l i).map (seqC s l')).sum
  | [], l', i => by simp [seqC, seqE]
  | p :: ps, l', i => by
    simp only [List.cons_append, seqC, seqE]
    rw [sum_map_flatMap, show seqC s (ps ++ l') = fun e => seqC s ps e + ((seqE s ps e).map (seqC s l')).sum from funext fun e => seqC_append s ps l' e, sum_map_add]
    omega
theorem sum_zero : ∀ l : List Nat, (l.map fun _ => 0).sum = 0
  | [] => rfl
  | e :: l => by simp [sum_zero l]
theorem seqE_one (s : List Nat) (n : Nd) (i : Nat) : seqE s [n] i = endsN s n i := by simp [seqE]
theorem seqC_one (s : List Nat) (n : Nd) (i : Nat) : seqC s [n] i = costN s n i := by
  show costN s n i + ((endsN s n i).map fun _ => 0).sum = _
  rw [sum_zero]; rfl
theorem rowE (s : List Nat) : ∀ (n : Nd) (i : Nat), seqE s (rowK true n) i = endsN s n i ∧ seqC s (rowK true n) i = costN s n i
  | .cat x y, i => by
    rw [show rowK true (.cat x y) = rowK true x ++ rowK true y by simp [rowK], seqE_append, seqC_append, (rowE s x i).1, (rowE s x i).2,
      show seqE s (rowK true y) = endsN s y from funext fun e => (rowE s y e).1, show seqC s (rowK true y) = costN s y from funext fun e => (rowE s y e).2]
    exact ⟨rfl, rfl⟩
  | .sg g, i => by simp [rowK, seqE_one, seqC_one]
  | .ways g, i => by simp [rowK, seqE_one, seqC_one]
  | .alt x y, i => by simp [rowK, seqE_one, seqC_one]
  | .arbno g, i => by simp [rowK, seqE_one, seqC_one]
  | .now g, i => by simp [rowK, seqE_one, seqC_one]
  | .fail, i => by simp [rowK, seqE_one, seqC_one]
theorem take_append_eq (d a b : List Nat) : (d.take (a ++ b).length = a ++ b) ↔ (d.take a.length = a ∧ (d.drop a.length).take b.length = b) := by
  rw [List.length_append, List.take_add]
  constructor
  · intro h
    have hl := congrArg List.length h
    simp only [List.length_append, List.length_take, List.length_drop] at hl
    exact List.append_inj h (by simp only [List.length_take]; omega)
  · rintro ⟨h1, h2⟩; rw [h1, h2]
theorem chars_cat (s a b : List Nat) (i : Nat) : endsN s (.sg (.chars (a ++ b))) i = (endsN s (.sg (.chars a)) i).flatMap (endsN s (.sg (.chars b))) := by
  simp only [endsN, Sg.fin]
  by_cases h : (s.drop i).take a.length = a
  · rw [if_pos h]
    simp only [Option.toList_some, List.flatMap_cons, List.flatMap_nil, List.append_nil]
    rw [← List.drop_drop]
    by_cases h2 : ((s.drop i).drop a.length).take b.length = b
    · rw [if_pos h2, if_pos ((take_append_eq _ _ _).mpr ⟨h, h2⟩)]
      simp; omega
    · rw [if_neg h2, if_neg fun z => h2 ((take_append_eq _ _ _).mp z).2]
  · rw [if_neg h, if_neg fun z => h ((take_append_eq _ _ _).mp z).1]
    rfl
theorem chars_nil (s : List Nat) (i : Nat) : endsN s (.sg (.chars [])) i = [i] := by simp [endsN, Sg.fin]
theorem joinStepE (s : List Nat) (acc : List Nd) (p : Nd) (i : Nat) : seqE s (joinStep acc p) i = seqE s (acc ++ [p]) i ∧ seqC s (joinStep acc p) i ≤ seqC s (acc ++ [p]) i := by
  unfold joinStep
  split
  · exact ⟨rfl, Nat.le_refl _⟩
  · rename_i l h
    have := isCh_some h
    subst this
    split
    · rename_i e
      subst e
      rw [seqE_append, seqC_append]
      refine ⟨?_, by omega⟩
      rw [show seqE s [Nd.sg (.chars [])] = fun i => [i] from funext fun i => by rw [seqE_one, chars_nil]]
      simp
    · split
      · rename_i l0 h0
        obtain ⟨q, h1, h2⟩ := Option.bind_eq_some_iff.mp h0
        have := isCh_some h2
        subst this
        rw [List.getLast?_eq_some_iff] at h1
        obtain ⟨ys, rfl⟩ := h1
        rw [List.dropLast_concat, List.append_assoc, seqE_append, seqE_append, seqC_append, seqC_append]
        constructor
        · congr 1
          funext e
          simp only [List.cons_append, List.nil_append, seqE]
          rw [chars_cat]
          simp
        · refine Nat.add_le_add_left (sum_map_le fun e _ => ?_) _
          show 1 + ((endsN s _ e).map fun _ => 0).sum ≤ 1 + _
          rw [sum_zero]; omega
      · exact ⟨rfl, Nat.le_refl _⟩
theorem joinE (s : List Nat) (l : List Nd) (i : Nat) : seqE s (joinL l) i = seqE s l i ∧ seqC s (joinL l) i ≤ seqC s l i := by
  have : ∀ (l acc : List Nd) (i : Nat), seqE s (l.foldl joinStep acc) i = seqE s (acc ++ l) i ∧ seqC s (l.foldl joinStep acc) i ≤ seqC s (acc ++ l) i := by
    intro l
    induction l with
    | nil => intro acc i; simp
    | cons p l ih =>
      intro acc i
      rw [List.foldl_cons, show acc ++ p :: l = (acc ++ [p]) ++ l by simp]
      obtain ⟨h1, h2⟩ := ih (joinStep acc p) i
      obtain ⟨h3, h4⟩ := joinStepE s acc p i
      rw [seqE_append] at h1
      rw [seqC_append] at h2
      rw [seqE_append, seqC_append, ← h3]
      exact ⟨h1, by omega⟩
  exact this l [] i

theorem altC_append (s : List Nat) (i : Nat) : ∀ (l l' : List Nd), l ≠ [] → l' ≠ [] → altC s (l ++ l') i ≤ altC s l i + 1 + (altE s l i).length + altC s l' i
  | [], l', h, _ => absurd rfl h
  | [p], l', _, h' => by
    obtain ⟨q, l', rfl⟩ := List.exists_cons_of_ne_nil h'
    show 1 + costN s p i + (endsN s p i).length + altC s (q :: l') i ≤ costN s p i + 1 + (altE s [p] i).length + _
    simp only [altE, List.flatMap_cons, List.flatMap_nil, List.append_nil]
    omega
  | p :: p2 :: l, l', _, h' => by
    have ih := altC_append s i (p2 :: l) l' nofun h'
    have e1 : altC s (p :: p2 :: l ++ l') i = 1 + costN s p i + (endsN s p i).length + altC s (p2 :: l ++ l') i := rfl
    have e2 : altC s (p :: p2 :: l) i = 1 + costN s p i + (endsN s p i).length + altC s (p2 :: l) i := rfl
    have e3 : altE s (p :: p2 :: l) i = endsN s p i ++ altE s (p2 :: l) i := by simp [altE]
    rw [e1, e2, e3, List.length_append]
    omega
theorem rowA (s : List Nat) (i : Nat) : ∀ (n : Nd), altE s (rowK false n) i = endsN s n i ∧ altC s (rowK false n) i ≤ costN s n i
  | .alt x y => by
    obtain ⟨x1, x2⟩ := rowA s i x
    obtain ⟨y1, y2⟩ := rowA s i y
    rw [show rowK false (.alt x y) = rowK false x ++ rowK false y by simp [rowK]]
    constructor
    · rw [show altE s (rowK false x ++ rowK false y) i = altE s (rowK false x) i ++ altE s (rowK false y) i by simp [altE], x1, y1]; rfl
    · have := altC_append s i _ _ (rowK_ne false x) (rowK_ne false y)
      rw [x1] at this
      simp only [costN]; omega
  | .cat x y => by simp [rowK, altE, altC]
  | .sg g => by simp [rowK, altE, altC]
  | .ways g => by simp [rowK, altE, altC]
  | .arbno g => by simp [rowK, altE, altC]
  | .now g => by simp [rowK, altE, altC]
  | .fail => by simp [rowK, altE, altC]

/-! the code walks its ways -/
noncomputable def ExB (os : List Od) (s : List Nat) (st : List Cfg) (k : Nat) (L : List (List Nat)) : Prop := ∃ k', k' ≤ k ∧ Ex os s st k' L
theorem ExB.mono {os : List Od} {s : List Nat} {st : List Cfg} {k k2 : Nat} {L : List (List Nat)} (h : ExB os s st k L) (hk : k ≤ k2) : ExB os s st k2 L := by
  obtain ⟨k', h1, h2⟩ := h; exact ⟨k', by omega, h2⟩
theorem ExB.append {os : List Od} {s : List Nat} {st st' : List Cfg} {k k2 : Nat} {L L2 : List (List Nat)} (h : ExB os s st k L) (h' : ExB os s st' k2 L2) : ExB os s (st ++ st') (k + k2) (L ++ L2) := by
  obtain ⟨a, h1, h2⟩ := h; obtain ⟨b, h3, h4⟩ := h'; exact ⟨a + b, by omega, h2.append h4⟩
theorem ExB.list {os : List Od} {s : List Nat} (f : Nat → Cfg) (k : Nat → Nat) (L : Nat → List (List Nat)) : ∀ l : List Nat, (∀ e ∈ l, ExB os s [f e] (k e) (L e)) → ExB os s (l.map f) ((l.map k).sum) (l.flatMap L)
  | [], _ => ⟨0, Nat.le_refl _, .nil⟩
  | e :: l, h => by
    have := (h e (.head _)).append (ExB.list f k L l fun e he => h e (.tail _ he))
    simpa using this
theorem ExB.step {os : List Od} {s : List Nat} {c : Cfg} {od : Od} {k : Nat} {L : List (List Nat)} (a : os[c.pc]? = some od) (b : c.i ≤ s.length) (o : stepOk c od) (h : ExB os s (stepN s c od) k L) : ExB os s [c] (1 + k) (stepL s c od ++ L) := by
  obtain ⟨k', h1, h2⟩ := h
  exact ⟨k' + 1, by omega, .cons a b o (by simpa using h2)⟩
theorem ExB.go {os : List Od} {s : List Nat} (pc i : Nat) (m : List Nat) (od : Od) {k : Nat} {L : List (List Nat)} (a : os[pc]? = some od) (b : i ≤ s.length) (o : stepOk ⟨pc, i, m⟩ od) (hl : stepL s ⟨pc, i, m⟩ od = []) (h : ExB os s (stepN s ⟨pc, i, m⟩ od) k L) : ExB os s [⟨pc, i, m⟩] (1 + k) L := by
  have := ExB.step (c := ⟨pc, i, m⟩) a b o h
  rwa [hl] at this
noncomputable def CodeAt (os : List Od) (b : Nat) (c : List Od) : Prop := ∀ (i : Nat) (od : Od), c[i]? = some od → os[b + i]? = some od
theorem CodeAt.left {os : List Od} {b : Nat} {c c' : List Od} (h : CodeAt os b (c ++ c')) : CodeAt os b c := fun i od e => h i od (by
  rw [List.getElem?_append_left (List.getElem?_eq_some_iff.mp e).1]; exact e)
theorem CodeAt.right {os : List Od} {b : Nat} {c c' : List Od} (h : CodeAt os b (c ++ c')) : CodeAt os (b + c.length) c' := fun i od e => by
  have := h (c.length + i) od (by rw [List.getElem?_append_right (by omega), show c.length + i - c.length = i by omega]; exact e)
  rwa [← Nat.add_assoc] at this
theorem CodeAt.head {os : List Od} {b : Nat} {od : Od} {c : List Od} (h : CodeAt os b (od :: c)) : os[b]? = some od := h 0 od rfl
theorem CodeAt.tail {os : List Od} {b : Nat} {od : Od} {c : List Od} (h : CodeAt os b (od :: c)) : CodeAt os (b + 1) c := CodeAt.right (c := [od]) h
/-- from `b` on, this code walks these ways, and ends each of them at `x` -/
noncomputable def Snd (s : List Nat) (ends : Nat → List Nat) (cost : Nat → Nat) (b x : Nat) (c : List Od) : Prop := ∀ os, CodeAt os b c → ∀ (i : Nat) (m : List Nat) (k : Nat → Nat) (L : Nat → List (List Nat)), i ≤ s.length →
  (∀ e ∈ ends i, ExB os s [⟨x, e, m⟩] (k e) (L e)) → ExB os s [⟨b, i, m⟩] (cost i + ((ends i).map k).sum) ((ends i).flatMap L)
noncomputable def SndJ (s : List Nat) (b : Nat) (cs : List (List Od)) : Job → Prop
  | .node n => ∀ c, cs = [c] → Snd s (endsN s n) (costN s n) b (b + c.length) c
  | .seq l => Snd s (seqE s l) (seqC s l) b (b + cs.flatten.length) cs.flatten
  | .alts l => ∀ E, E = b + (altF E b cs).length → Snd s (altE s l) (altC s l) b E (altF E b cs)
theorem snd_arbno {s : List Nat} {x : Nd} {b : Nat} {c : List Od} (h : Snd s (endsN s x) (costN s x) (b + 3) (b + 3 + c.length) c) :
    Snd s (endsN s (.arbno x)) (costN s (.arbno x)) b (b + (c.length + 5)) ([.split (b + 2), .jump (b + 3 + c.length + 2), .mark] ++ c ++ [.gain, .jump b]) := by
  intro os ha i m k L hi hE
  have a0 := ha.left.left.head
  have a1 := ha.left.left.tail.head
  have a2 := ha.left.left.tail.tail.head
  have a3 : CodeAt os (b + 3) c := ha.left.right
  have a4 : os[b + 3 + c.length]? = some .gain := by have := ha.right.head; rwa [List.length_append, ← Nat.add_assoc] at this
  have a5 : os[b + 3 + c.length + 1]? = some (.jump b) := by have := ha.right.tail.head; rwa [List.length_append, ← Nat.add_assoc] at this
  have key : ∀ (f i : Nat), s.length - i ≤ f → i ≤ s.length → (∀ e ∈ arbE (endsN s x) f i, ExB os s [⟨b + (c.length + 5), e, m⟩] (k e) (L e)) → ExB os s [⟨b, i, m⟩] (arbC (endsN s x) (costN s x) f i + ((arbE (endsN s x) f i).map k).sum) ((arbE (endsN s x) f i).flatMap L) := by
    intro f
    induction f with
    | zero =>
      intro i h1 h2 hE
      have q1 : ExB os s [⟨b + 1, i, m⟩] (1 + k i) (L i) := by
        refine ExB.go _ _ _ (.jump (b + 3 + c.length + 2)) a1 h2 trivial rfl ?_
        rw [show b + 3 + c.length + 2 = b + (c.length + 5) by omega]
        exact hE i (by simp [arbE])
      have q2 : ExB os s [⟨b + 2, i, m⟩] (1 + (costN s x i + ((endsN s x i).map fun _ => 1).sum)) ((endsN s x i).flatMap fun _ => []) := by
        refine ExB.go _ _ _ .mark a2 h2 trivial rfl ?_
        refine h os a3 i (i :: m) (fun _ => 1) (fun _ => []) h2 fun e he => ?_
        have := endsN_bd x i h2 e he
        refine ExB.go (k := 0) _ _ _ .gain a4 this.2 (by simp [stepOk]) rfl ?_
        rw [show stepN s ⟨b + 3 + c.length, e, i :: m⟩ .gain = [] by simp [stepN]; omega]
        exact ⟨0, Nat.le_refl _, .nil⟩
      have q := ExB.go b i m (.split (b + 2)) a0 h2 trivial rfl (q1.append q2)
      have e1 : ((endsN s x i).map fun _ => 1).sum = (endsN s x i).length := by
        generalize endsN s x i = l
        induction l with
        | nil => rfl
        | cons e l ih => simp only [List.map_cons, List.sum_cons, List.length_cons, ih]; omega
      have e2 : (endsN s x i).flatMap (fun _ => ([] : List (List Nat))) = [] := by simp
      rw [e2] at q
      simp only [List.append_nil] at q
      simp only [arbE, arbC, List.map_cons, List.map_nil, List.sum_cons, List.sum_nil, List.flatMap_cons, List.flatMap_nil, List.append_nil]
      exact q.mono (by omega)
    | succ f ih =>
      intro i h1 h2 hE
      have q1 : ExB os s [⟨b + 1, i, m⟩] (1 + k i) (L i) := by
        refine ExB.go _ _ _ (.jump (b + 3 + c.length + 2)) a1 h2 trivial rfl ?_
        rw [show b + 3 + c.length + 2 = b + (c.length + 5) by omega]
        exact hE i (by simp [arbE])
      have q2 := ExB.go (b + 2) i m .mark a2 h2 trivial rfl (h os a3 i (i :: m) (fun e => if i < e then 2 + (arbC (endsN s x) (costN s x) f e + ((arbE (endsN s x) f e).map k).sum) else 1) (fun e => if i < e then (arbE (endsN s x) f e).flatMap L else []) h2 fun e he => by
        have hb := endsN_bd x i h2 e he
        by_cases hie : i < e
        · simp only [if_pos hie]
          have q3 := ih e (by omega) hb.2 (fun e' he' => hE e' (by
            unfold arbE
            exact .tail _ (List.mem_flatMap.mpr ⟨e, he, by rw [if_pos hie]; exact he'⟩)))
          have q4 := ExB.go (b + 3 + c.length + 1) e m (.jump b) a5 hb.2 trivial rfl q3
          have q5 : ExB os s [⟨b + 3 + c.length, e, i :: m⟩] (1 + (1 + (arbC (endsN s x) (costN s x) f e + ((arbE (endsN s x) f e).map k).sum))) ((arbE (endsN s x) f e).flatMap L) := by
            refine ExB.go _ _ _ .gain a4 hb.2 (by simp [stepOk]) rfl ?_
            rw [show stepN s ⟨b + 3 + c.length, e, i :: m⟩ .gain = [⟨b + 3 + c.length + 1, e, m⟩] by simp [stepN]; omega]
            exact q4
          exact q5.mono (by omega)
        · simp only [if_neg hie]
          refine ExB.go (k := 0) _ _ _ .gain a4 hb.2 (by simp [stepOk]) rfl ?_
          rw [show stepN s ⟨b + 3 + c.length, e, i :: m⟩ .gain = [] by simp [stepN]; omega]
          exact ⟨0, Nat.le_refl _, .nil⟩)
      have q := ExB.go b i m (.split (b + 2)) a0 h2 trivial rfl (q1.append q2)
      have e2 : (arbE (endsN s x) (f + 1) i).flatMap L = L i ++ (endsN s x i).flatMap fun e => if i < e then (arbE (endsN s x) f e).flatMap L else [] := by
        rw [show arbE (endsN s x) (f + 1) i = i :: (endsN s x i).flatMap fun e => if i < e then arbE (endsN s x) f e else [] from rfl, List.flatMap_cons, List.flatMap_assoc]
        congr 2
        funext e
        split <;> rfl
      rw [e2]
      refine q.mono ?_
      have e3 : arbC (endsN s x) (costN s x) (f + 1) i = 3 + costN s x i + ((endsN s x i).map fun e => if i < e then 2 + arbC (endsN s x) (costN s x) f e else 1).sum := rfl
      have e4 : ((arbE (endsN s x) (f + 1) i).map k).sum = k i + ((endsN s x i).map fun e => if i < e then ((arbE (endsN s x) f e).map k).sum else 0).sum := by
        rw [show arbE (endsN s x) (f + 1) i = i :: (endsN s x i).flatMap fun e => if i < e then arbE (endsN s x) f e else [] from rfl, List.map_cons, List.sum_cons, sum_map_flatMap]
        congr 3
        funext e
        split <;> rfl
      have e5 : ((endsN s x i).map fun e => if i < e then 2 + (arbC (endsN s x) (costN s x) f e + ((arbE (endsN s x) f e).map k).sum) else 1).sum =
          ((endsN s x i).map fun e => if i < e then 2 + arbC (endsN s x) (costN s x) f e else 1).sum + ((endsN s x i).map fun e => if i < e then ((arbE (endsN s x) f e).map k).sum else 0).sum := by
        rw [← sum_map_add]
        congr 2
        funext e
        split <;> omega
      rw [e3, e4, e5]
      omega
  exact key (s.length - i) i (Nat.le_refl _) hi hE

/-- no name is given within -/
noncomputable def Nd.pl : Nd → Bool
  | .cat x y => x.pl && y.pl
  | .alt x y => x.pl && y.pl
  | .arbno x => x.pl
  | .now _ => false
  | _ => true
theorem rowK_pl (k : Bool) : ∀ n : Nd, n.pl = true → ∀ p ∈ rowK k n, p.pl = true
  | .cat x y, h, p, hp => by
    cases k with
    | true =>
      rw [show rowK true (.cat x y) = rowK true x ++ rowK true y by simp [rowK]] at hp
      simp only [Nd.pl, Bool.and_eq_true] at h
      rcases List.mem_append.mp hp with hp | hp
      · exact rowK_pl true x h.1 p hp
      · exact rowK_pl true y h.2 p hp
    | false => simp [rowK] at hp; rw [hp]; exact h
  | .alt x y, h, p, hp => by
    cases k with
    | false =>
      rw [show rowK false (.alt x y) = rowK false x ++ rowK false y by simp [rowK]] at hp
      simp only [Nd.pl, Bool.and_eq_true] at h
      rcases List.mem_append.mp hp with hp | hp
      · exact rowK_pl false x h.1 p hp
      · exact rowK_pl false y h.2 p hp
    | true => simp [rowK] at hp; rw [hp]; exact h
  | .sg g, h, p, hp => by induction k using Bool.casesOn <;> (simp [rowK] at hp; rw [hp]; exact h)
  | .ways g, h, p, hp => by induction k using Bool.casesOn <;> (simp [rowK] at hp; rw [hp]; exact h)
  | .arbno g, h, p, hp => by induction k using Bool.casesOn <;> (simp [rowK] at hp; rw [hp]; exact h)
  | .now g, h, p, hp => by induction k using Bool.casesOn <;> (simp [rowK] at hp; rw [hp]; exact h)
  | .fail, h, p, hp => by induction k using Bool.casesOn <;> (simp [rowK] at hp; rw [hp]; exact h)
theorem joinL_pl {l : List Nd} (h : ∀ p ∈ l, p.pl = true) : ∀ p ∈ joinL l, p.pl = true := by
  have : ∀ (l acc : List Nd), (∀ p ∈ acc, p.pl = true) → (∀ p ∈ l, p.pl = true) → ∀ p ∈ l.foldl joinStep acc, p.pl = true := by
    intro l
    induction l with
    | nil => intro acc h1 _; exact h1
    | cons q l ih =>
      intro acc h1 h2
      refine ih _ (fun p hp => ?_) fun p hp => h2 p (.tail _ hp)
      have hq := h2 q (.head _)
      unfold joinStep at hp
      split at hp
      · rcases List.mem_append.mp hp with hp | hp
        · exact h1 p hp
        · simp at hp; rw [hp]; exact hq
      · split at hp
        · exact h1 p hp
        · split at hp
          · rcases List.mem_append.mp hp with hp | hp
            · exact h1 p (List.dropLast_subset _ hp)
            · simp at hp; rw [hp]; rfl
          · rcases List.mem_append.mp hp with hp | hp
            · exact h1 p hp
            · simp at hp; rw [hp]; exact hq
  exact this l [] (fun _ h => nomatch h) h
noncomputable def SndP (s : List Nat) (b : Nat) (cs : List (List Od)) (j : Job) : Prop := (match j with
  | .node n => n.pl = true ∧ n.w ≤ 1000
  | .seq l => ∀ p ∈ l, p.pl = true ∧ p.w ≤ 1000
  | .alts l => ∀ p ∈ l, p.pl = true ∧ p.w ≤ 1000) → SndJ s b cs j
theorem Snd.congr {s : List Nat} {e e' : Nat → List Nat} {c c' : Nat → Nat} {b x : Nat} {cd : List Od} (h : Snd s e c b x cd) (he : ∀ i, e i = e' i) (hc : ∀ i, c i ≤ c' i) : Snd s e' c' b x cd := fun os ha i m k L hi hE => by
  have := h os ha i m k L hi (by rw [he]; exact hE)
  rw [he] at this
  exact this.mono (by have := hc i; omega)
theorem sound {s : List Nat} {j : Job} {b : Nat} {cs : List (List Od)} (g : Gen j b cs) : SndP s b cs j := by
  induction g with
  | sg g b =>
    rintro ⟨_, hw⟩ c e
    cases e
    intro os ha i m k L hi hE
    have ok : stepOk ⟨b, i, m⟩ (.one g) := by induction g using Sg.casesOn <;> first | trivial | (simp only [Nd.w, Sg.cl] at hw; show _ ≤ _; omega)
    refine (ExB.go b i m (.one g) ha.head hi ok rfl (k := ((g.fin s i).toList.map k).sum) ?_)
    simp only [stepN, endsN] at hE ⊢
    cases e : g.fin s i with
    | none => exact ⟨0, Nat.le_refl _, .nil⟩
    | some e' =>
      rw [e] at hE
      simpa using hE e' (by simp)
  | ways w b =>
    rintro _ c e
    cases e
    intro os ha i m k L hi hE
    refine (ExB.go b i m (.ways w) ha.head hi trivial rfl (k := ((waysE s i w).map k).sum) ?_)
    exact ExB.list (fun e => ⟨b + 1, e, m⟩) k L _ hE
  | fail b =>
    rintro _ c e
    cases e
    intro os ha i m k L hi hE
    exact ExB.go b i m .fail ha.head hi trivial rfl (k := 0) ⟨0, Nat.le_refl _, .nil⟩
  | now _ _ => rintro ⟨h, _⟩; cases h
  | @arbno x b c g ih =>
    rintro ⟨h, hw⟩ c' e
    cases e
    have := snd_arbno (ih ⟨h, by simp only [Nd.w] at hw; omega⟩ c rfl)
    simpa [Nat.add_assoc, Nat.add_comm, Nat.add_left_comm] using this
  | @cat x y b cs g ih =>
    rintro ⟨h, hw⟩ c' e
    cases e
    have w3 := @rowK_w3 x y
    have jw := joinL_w (rowK true (.cat x y))
    have pl := joinL_pl (rowK_pl true (.cat x y) h)
    have := ih fun p hp => ⟨pl p hp, by have := wL_mem hp; omega⟩
    exact Snd.congr this (fun i => by rw [(joinE s _ i).1, (rowE s _ i).1]) fun i => by rw [← (rowE s _ i).2]; exact (joinE s _ i).2
  | @alt x y b cs g ih =>
    rintro ⟨h, hw⟩ c' e
    cases e
    have w1 := rowK_w false (.alt x y)
    have pl := rowK_pl false (.alt x y) h
    have this := ih (fun p hp => ⟨pl p hp, by have := wL_mem hp; omega⟩) (b + (altH b cs).length) (by rw [← altH_len])
    rw [← altH_len]
    exact Snd.congr this (fun i => (rowA s i _).1) fun i => (rowA s i _).2
  | nil b =>
    rintro _ os ha i m k L hi hE
    simpa [seqE, seqC] using hE i (by simp [seqE])
  | @cons p ps b c cs g1 g2 ih1 ih2 =>
    rintro h os ha i m k L hi hE
    rw [List.flatten_cons] at ha
    have s1 := ih1 (h p (.head _)) c rfl os ha.left i m (fun e => seqC s ps e + ((seqE s ps e).map k).sum) (fun e => (seqE s ps e).flatMap L) hi fun e he => by
      have hb := endsN_bd p i hi e he
      refine ih2 (fun p hp => h p (.tail _ hp)) os ha.right e m k L hb.2 fun e' he' => ?_
      have := hE e' (List.mem_flatMap.mpr ⟨e, he, he'⟩)
      rw [List.flatten_cons, List.length_append, ← Nat.add_assoc] at this
      exact this
    rw [show (seqE s (p :: ps) i).flatMap L = (endsN s p i).flatMap fun e => (seqE s ps e).flatMap L by simp [seqE, List.flatMap_assoc]]
    refine s1.mono ?_
    simp only [seqC, seqE]
    rw [sum_map_flatMap, sum_map_add]
    omega
  | @one p b c g ih =>
    rintro h E hE
    have := ih (h p (.head _)) c rfl
    rw [show altF E b [c] = c from rfl] at hE
    rw [← hE] at this
    exact Snd.congr this (fun i => by simp [altE]) fun i => Nat.le_refl _
  | @more p p2 ps b c cs g1 g2 ih1 ih2 =>
    rintro h E hE
    obtain ⟨c2, cs, rfl⟩ := List.exists_cons_of_ne_nil g2.alts_ne
    have eF : altF E b (c :: c2 :: cs) = .split (b + 1 + c.length + 1) :: (c ++ .jump E :: altF E (b + 1 + c.length + 1) (c2 :: cs)) := rfl
    rw [eF] at hE ⊢
    simp only [List.length_cons, List.length_append] at hE
    intro os ha i m k L hi hEx
    have a0 := ha.head
    have a1 : CodeAt os (b + 1) c := ha.tail.left
    have a2 : os[b + 1 + c.length]? = some (.jump E) := ha.tail.right.head
    have a3 : CodeAt os (b + 1 + c.length + 1) (altF E (b + 1 + c.length + 1) (c2 :: cs)) := ha.tail.right.tail
    have eE : altE s (p :: p2 :: ps) i = endsN s p i ++ altE s (p2 :: ps) i := by simp [altE]
    rw [eE] at hEx ⊢
    have q1 := ih1 (h p (.head _)) c rfl os a1 i m (fun e => 1 + k e) L hi fun e he => by
      have hb := endsN_bd p i hi e he
      exact ExB.go _ _ _ (.jump E) a2 hb.2 trivial rfl (hEx e (List.mem_append_left _ he))
    have q2 := ih2 (fun p hp => h p (.tail _ hp)) E (by omega) os a3 i m k L hi fun e he => hEx e (List.mem_append_right _ he)
    have q := ExB.go b i m (.split (b + 1 + c.length + 1)) a0 hi trivial rfl (q1.append q2)
    rw [List.flatMap_append]
    refine q.mono ?_
    have eC : altC s (p :: p2 :: ps) i = 1 + costN s p i + (endsN s p i).length + altC s (p2 :: ps) i := rfl
    have e1 : ((endsN s p i).map fun e => 1 + k e).sum = (endsN s p i).length + ((endsN s p i).map k).sum := by
      generalize endsN s p i = l
      induction l with
      | nil => rfl
      | cons e l ih => simp only [List.map_cons, List.sum_cons, List.length_cons, ih]; omega
    rw [eC, e1, List.map_append, List.sum_append]
    omega

/-! the whole: a name is given at once, FAIL behind -/
noncomputable def whole (n : Nd) : Nd := .cat (.now n) .fail
theorem whole_gen {n : Nd} {c : List Od} (g : Gen (.node (whole n)) 0 [c]) : ∃ c', Gen (.node n) 1 [c'] ∧ c = .mark :: (c' ++ [.set]) ++ [.fail] := by
  generalize hj : Job.node (whole n) = j at g
  generalize hb : 0 = b at g
  generalize hc : [c] = cs at g
  induction g using Gen.casesOn <;> try cases hj
  rename_i cs g
  cases hc
  subst hb
  have e : joinL (rowK true (.cat (.now n) .fail)) = [.now n, .fail] := by simp [rowK, joinL, joinStep, isCh]
  rw [e] at g
  cases g with
  | cons g1 g2 =>
    cases g2 with
    | cons g3 g4 =>
      cases g4
      cases g3
      cases g1 with
      | now g1 => exact ⟨_, g1, by simp⟩
theorem whole_ex {s : List Nat} {n : Nd} (hp : n.pl = true) (hw : n.w ≤ 1000) {c : List Od} (g : Gen (.node (whole n)) 0 [c]) : ExB (c ++ [.done]) s [⟨0, 0, []⟩] (1 + costN s n 0 + 2 * (endsN s n 0).length) ((endsN s n 0).map fun e => s.take e) := by
  obtain ⟨c', g', rfl⟩ := whole_gen g
  have snd := sound (s := s) g' ⟨hp, hw⟩ c' rfl
  have ha : CodeAt ((.mark :: (c' ++ [.set]) ++ [.fail]) ++ [.done]) 0 ((.mark :: (c' ++ [.set]) ++ [.fail]) ++ [.done]) := fun i od e => by rw [Nat.zero_add]; exact e
  have h0 := Nat.zero_le s.length
  have a0 := ha.left.left.head
  have a1 : CodeAt ((.mark :: (c' ++ [.set]) ++ [.fail]) ++ [.done]) 1 c' := ha.left.left.tail.left
  have a2 : ((.mark :: (c' ++ [.set]) ++ [.fail]) ++ [.done])[1 + c'.length]? = some Od.set := by have := ha.left.left.tail.right.head; rwa [Nat.zero_add] at this
  have a3 : ((.mark :: (c' ++ [.set]) ++ [.fail]) ++ [.done])[1 + c'.length + 1]? = some Od.fail := by
    have := ha.left.right.head
    simp only [List.length_cons, List.length_append, List.length_nil] at this
    rw [show 1 + c'.length + 1 = 0 + (c'.length + (0 + 1) + 1) by omega]; exact this
  have q := snd _ a1 0 [0] (fun _ => 2) (fun e => [s.take e]) h0 fun e he => by
    have hb := endsN_bd n 0 h0 e he
    have q1 := ExB.go (1 + c'.length + 1) e [] .fail a3 hb.2 trivial rfl (k := 0) (L := []) ⟨0, Nat.le_refl _, .nil⟩
    have q2 := ExB.step (c := ⟨1 + c'.length, e, [0]⟩) (od := .set) a2 hb.2 (by simp [stepOk]) q1
    exact q2
  have q2 := ExB.go 0 0 [] .mark a0 h0 trivial rfl q
  have e1 : ((endsN s n 0).map fun _ => 2).sum = 2 * (endsN s n 0).length := by
    generalize endsN s n 0 = l
    induction l with
    | nil => rfl
    | cons e l ih => simp only [List.map_cons, List.sum_cons, List.length_cons, ih]; omega
  have e2 : ((endsN s n 0).flatMap fun e => [s.take e]) = (endsN s n 0).map fun e => s.take e := by
    generalize endsN s n 0 = l
    induction l with
    | nil => rfl
    | cons e l ih => simp [ih]
  rw [e1, e2] at q2
  exact q2.mono (by omega)

noncomputable def CodeOk (b lim : Nat) (c : List Od) : Prop := ∀ i g : Nat, (c[i]? = some (.jump g) → (b + i < g ∧ g ≤ lim) ∨ (b ≤ g ∧ ∃ t, c[g - b]? = some (.split t))) ∧ (c[i]? = some (.split g) → g ≤ lim)
theorem CodeOk.mono {b lim lim' : Nat} {c : List Od} (h : CodeOk b lim c) (hl : lim ≤ lim') : CodeOk b lim' c := fun i g =>
  ⟨fun e => ((h i g).1 e).imp (fun z => ⟨z.1, Nat.le_trans z.2 hl⟩) id, fun e => Nat.le_trans ((h i g).2 e) hl⟩
theorem CodeOk.append {b lim : Nat} {c c' : List Od} (h : CodeOk b lim c) (h' : CodeOk (b + c.length) lim c') : CodeOk b lim (c ++ c') := by
  intro i g
  by_cases hi : i < c.length
  · rw [List.getElem?_append_left hi]
    refine ⟨fun e => ((h i g).1 e).imp id fun z => ⟨z.1, ?_⟩, (h i g).2⟩
    obtain ⟨z1, t, z2⟩ := z
    exact ⟨t, by rw [List.getElem?_append_left (List.getElem?_eq_some_iff.mp z2).1]; exact z2⟩
  · rw [List.getElem?_append_right (by omega)]
    refine ⟨fun e => ((h' (i - c.length) g).1 e).imp (fun z => ⟨by omega, z.2⟩) fun z => ⟨by omega, ?_⟩, (h' (i - c.length) g).2⟩
    obtain ⟨z1, t, z2⟩ := z
    exact ⟨t, by rw [List.getElem?_append_right (by omega), show g - b - c.length = g - (b + c.length) by omega]; exact z2⟩
theorem CodeOk.nil {b lim : Nat} : CodeOk b lim [] := fun i g => ⟨nofun, nofun⟩
theorem CodeOk.one {b lim : Nat} {od : Od} (h1 : ∀ g, od = .jump g → b < g ∧ g ≤ lim) (h2 : ∀ g, od = .split g → g ≤ lim) : CodeOk b lim [od] := fun i g => by
  induction i using Nat.casesOn with
  | zero => exact ⟨fun e => .inl (h1 g (Option.some.inj e)), fun e => h2 g (Option.some.inj e)⟩
  | succ i => exact ⟨nofun, nofun⟩
theorem code_ok {j : Job} {b : Nat} {cs : List (List Od)} (g : Gen j b cs) : (match j with
    | .node _ => ∀ c, cs = [c] → CodeOk b (b + c.length) c
    | .seq _ => CodeOk b (b + cs.flatten.length) cs.flatten
    | .alts _ => ∀ E, b + (altF E b cs).length ≤ E → CodeOk b E (altF E b cs)) := by
  induction g with
  | sg g b => rintro c e; cases e; exact .one nofun nofun
  | ways w b => rintro c e; cases e; exact .one nofun nofun
  | fail b => rintro c e; cases e; exact .one nofun nofun
  | @now x b c g ih =>
    rintro c' e; cases e
    have := ih c rfl
    rw [show Od.mark :: (c ++ [.set]) = [.mark] ++ (c ++ [.set]) by simp]
    refine CodeOk.append (.one nofun nofun) (CodeOk.append (this.mono (by simp; omega)) (.one nofun nofun))
  | @arbno x b c g ih =>
    rintro c' e; cases e
    have := ih c rfl
    have e : ([Od.split (b + 2), Od.jump (b + 3 + c.length + 2), Od.mark] ++ c ++ [Od.gain, Od.jump b] : List Od) = ([Od.split (b + 2)] ++ ([Od.jump (b + 3 + c.length + 2)] ++ ([Od.mark] ++ (c ++ [Od.gain])))) ++ [Od.jump b] := by simp
    rw [e]
    generalize hl : b + (([Od.split (b + 2)] ++ ([Od.jump (b + 3 + c.length + 2)] ++ ([Od.mark] ++ (c ++ [Od.gain])))) ++ [Od.jump b]).length = lim
    have hl' : lim = b + 3 + c.length + 2 := by rw [← hl]; simp; omega
    have front : CodeOk b lim ([Od.split (b + 2)] ++ ([Od.jump (b + 3 + c.length + 2)] ++ ([Od.mark] ++ (c ++ [Od.gain])))) :=
      CodeOk.append (.one nofun fun g e => by cases e; omega) (CodeOk.append (.one (fun g e => by cases e; first | omega | (simp; omega)) nofun) (CodeOk.append (.one nofun nofun) (CodeOk.append (by simpa using this.mono (by omega)) (.one nofun nofun))))
    intro i g
    by_cases hi : i < ([Od.split (b + 2)] ++ ([Od.jump (b + 3 + c.length + 2)] ++ ([Od.mark] ++ (c ++ [Od.gain]))) : List Od).length
    · rw [List.getElem?_append_left hi]
      refine ⟨fun e => ((front i g).1 e).imp id fun z => ⟨z.1, ?_⟩, (front i g).2⟩
      obtain ⟨z1, t, z2⟩ := z
      exact ⟨t, by rw [List.getElem?_append_left (List.getElem?_eq_some_iff.mp z2).1]; exact z2⟩
    · rw [List.getElem?_append_right (by omega)]
      generalize i - ([Od.split (b + 2)] ++ ([Od.jump (b + 3 + c.length + 2)] ++ ([Od.mark] ++ (c ++ [Od.gain]))) : List Od).length = i'
      induction i' using Nat.casesOn with
      | zero =>
        refine ⟨fun e => .inr ?_, nofun⟩
        cases e
        exact ⟨Nat.le_refl _, b + 2, by rw [Nat.sub_self]; rfl⟩
      | succ i' => exact ⟨nofun, nofun⟩
  | @cat x y b cs g ih => rintro c e; cases e; exact ih
  | @alt x y b cs g ih =>
    rintro c e; cases e
    rw [← altH_len]
    exact ih _ (by rw [← altH_len]; exact Nat.le_refl _)
  | nil b => exact .nil
  | @cons p ps b c cs g1 g2 ih1 ih2 =>
    have h1 := ih1 c rfl
    show CodeOk b (b + (c ++ cs.flatten).length) (c ++ cs.flatten)
    rw [List.length_append]
    exact (h1.mono (by omega)).append (ih2.mono (by omega))
  | @one p b c g ih => rintro E hE; exact (ih c rfl).mono hE
  | @more p p2 ps b c cs g1 g2 ih1 ih2 =>
    rintro E hE
    obtain ⟨c2, cs, rfl⟩ := List.exists_cons_of_ne_nil g2.alts_ne
    have eF : altF E b (c :: c2 :: cs) = [.split (b + 1 + c.length + 1)] ++ (c ++ ([.jump E] ++ altF E (b + 1 + c.length + 1) (c2 :: cs))) := by simp [altF]
    rw [eF] at hE ⊢
    simp only [List.length_append, List.length_cons, List.length_nil] at hE
    refine CodeOk.append (.one nofun fun g e => by cases e; omega) (CodeOk.append ((ih1 c rfl).mono (by omega)) (CodeOk.append (.one (fun g e => by cases e; simp only [List.length_cons, List.length_nil]; omega) nofun) ?_))
    have := ih2 E (by omega)
    simpa [Nat.add_assoc] using this
theorem code_jok {n : Nd} {c : List Od} (g : Gen (.node n) 0 [c]) : JOk (c ++ [.done]) := by
  have h := (code_ok g) c rfl
  rw [Nat.zero_add] at h
  have h' : CodeOk 0 c.length (c ++ [.done]) := h.append (.one nofun nofun)
  refine ⟨fun i g e => ?_, fun i g e => ?_⟩
  · rcases (h' i g).1 e with z | ⟨z1, t, z2⟩
    · exact ⟨by simp; omega, .inl (by omega)⟩
    · rw [Nat.sub_zero] at z2
      exact ⟨(List.getElem?_eq_some_iff.mp z2).1, .inr ⟨t, z2⟩⟩
  · have := (h' i g).2 e
    simp; omega

/-! straightened code -/
theorem Ex.cut {os : List Od} {s : List Nat} {st : List Cfg} {k : Nat} {L : List (List Nat)} (h : Ex os s st k L) : ∀ (A B : List Cfg), st = A ++ B → ∃ k1 k2 L1 L2, Ex os s A k1 L1 ∧ Ex os s B k2 L2 ∧ k = k1 + k2 ∧ L = L1 ++ L2 := by
  induction h with
  | nil =>
    intro A B e
    obtain ⟨rfl, rfl⟩ := List.append_eq_nil_iff.mp e.symm
    exact ⟨0, 0, [], [], .nil, .nil, rfl, rfl⟩
  | @cons c rest od k L a b o h ih =>
    intro A B e
    induction A using List.casesOn with
    | nil =>
      rw [List.nil_append] at e
      subst e
      exact ⟨0, k + 1, [], _, .nil, .cons a b o h, by omega, rfl⟩
    | cons c' A =>
      rw [List.cons_append] at e
      injection e with e1 e2
      subst e1
      subst e2
      obtain ⟨k1, k2, L1, L2, h1, h2, h3, h4⟩ := ih (stepN s c od ++ A) B (by simp)
      exact ⟨k1 + 1, k2, stepL s c od ++ L1, L2, .cons a b o h1, h2, by omega, by rw [h4, List.append_assoc]⟩
theorem Ex.skip {os : List Od} {s : List Nat} {i : Nat} {m : List Nat} : ∀ (f g k : Nat) {L : List (List Nat)}, Ex os s [⟨g, i, m⟩] k L → ∃ k', k' ≤ k ∧ Ex os s [⟨res os f g, i, m⟩] k' L
  | 0, g, k, L, h => ⟨k, Nat.le_refl _, h⟩
  | f + 1, g, k, L, h => by
    unfold res
    split
    · rename_i g' e
      cases h with
      | @cons _ _ od k L a b o h =>
        dsimp only at a
        rw [e] at a
        obtain rfl := Option.some.inj a
        obtain ⟨k', h1, h2⟩ := Ex.skip f g' k (by simpa [stepN] using h)
        exact ⟨k', by omega, by simpa [stepL] using h2⟩
    · exact ⟨k, Nat.le_refl _, h⟩
theorem ex_straight {os : List Od} {s : List Nat} : ∀ (n : Nat) {st : List Cfg} {k : Nat} {L : List (List Nat)}, k ≤ n → Ex os s st k L → ∃ k', k' ≤ k ∧ Ex (os.map (str1 os)) s st k' L := by
  intro n
  induction n with
  | zero =>
    intro st k L hk h
    induction h using Ex.casesOn with
    | nil => exact ⟨0, Nat.le_refl _, .nil⟩
    | cons => omega
  | succ n ih =>
    intro st k L hk h
    induction h using Ex.casesOn with
    | nil => exact ⟨0, Nat.le_refl _, .nil⟩
    | @cons c rest od k L a b o h =>
      have a' : (os.map (str1 os))[c.pc]? = some (str1 os od) := by simp [a]
      induction od using Od.casesOn with
      | jump g =>
        obtain ⟨k1, k2, L1, L2, h1, h2, h3, h4⟩ := h.cut [⟨g, c.i, c.m⟩] rest rfl
        obtain ⟨k1', h5, h6⟩ := Ex.skip (os.length + 2) g k1 h1
        obtain ⟨k', h7, h8⟩ := ih (by omega) (h6.append h2)
        exact ⟨k' + 1, by omega, by rw [h4]; exact .cons (od := .jump (res os (os.length + 2) g)) a' b trivial h8⟩
      | split g =>
        obtain ⟨k0, k3, L0, L3, h0, h3, e1, e2⟩ := h.cut [⟨c.pc + 1, c.i, c.m⟩] (⟨g, c.i, c.m⟩ :: rest) rfl
        obtain ⟨k1, k2, L1, L2, h1, h2, e3, e4⟩ := h3.cut [⟨g, c.i, c.m⟩] rest rfl
        obtain ⟨k1', h5, h6⟩ := Ex.skip (os.length + 2) g k1 h1
        obtain ⟨k', h7, h8⟩ := ih (by omega) (h0.append (h6.append h2))
        exact ⟨k' + 1, by omega, by rw [e2, e4]; exact .cons (od := .split (res os (os.length + 2) g)) a' b trivial h8⟩
      | done => exact o.elim
      | one g => obtain ⟨k', h1, h2⟩ := ih (by omega) h; exact ⟨k' + 1, by omega, .cons (od := .one g) a' b o h2⟩
      | ways g => obtain ⟨k', h1, h2⟩ := ih (by omega) h; exact ⟨k' + 1, by omega, .cons (od := .ways g) a' b o h2⟩
      | mark => obtain ⟨k', h1, h2⟩ := ih (by omega) h; exact ⟨k' + 1, by omega, .cons (od := .mark) a' b o h2⟩
      | set => obtain ⟨k', h1, h2⟩ := ih (by omega) h; exact ⟨k' + 1, by omega, .cons (od := .set) a' b o h2⟩
      | gain => obtain ⟨k', h1, h2⟩ := ih (by omega) h; exact ⟨k' + 1, by omega, .cons (od := .gain) a' b o h2⟩
      | fail => obtain ⟨k', h1, h2⟩ := ih (by omega) h; exact ⟨k' + 1, by omega, .cons (od := .fail) a' b o h2⟩
section
variable {H : Hp} {d : Nat} {Q : QV} {r : Nat}
/-- what `match_compiled` does with a name given at once and FAIL behind -/
theorem c_whole {n : Nd} (hw : n.w ≤ 200) (hp : n.pl = true) {s : List Nat} {h dv rf lg : Nat} (hs : s.length ≤ 1000) (hc : 1 + costN s n 0 + 2 * (endsN s n 0).length ≤ 97000) (hh : H h = some (hostO dv rf lg 0)) (hdv : H dv = some (.dic 0)) (hrf : H rf = some (.lst []))
    (hlg : H lg = some (.lst [])) (hr : ∃ x y, H r = some (.ins 208 [(15, x), (16, y), (17, .str [86])])) (n2 : lg ≠ rf)
    (q : ∀ st H', H' h = some (hostO dv rf lg st) → H' lg = some (.lst (((endsN s n 0).map fun e => s.take e).map entV)) → (∀ b, H b ≠ none → b ≠ h → b ≠ dv → b ≠ lg → H' b = H b) → Q .none H') : CN (d + 8) 551 [(whole n).v r, .str s, .bool true, .ref h] H Q := by
  refine c_match (by simp only [whole, Nd.w]; omega) (fun c g => code_jok g) hs hh hdv hrf hlg hr n2 (fun c g => ?_) q
  obtain ⟨k, h1, h2⟩ := whole_ex (s := s) hp (by omega) g
  obtain ⟨k', h3, h4⟩ := ex_straight k (Nat.le_refl _) h2
  exact ⟨k', by omega, h4⟩
end

/-! law 2: the script's cells -/
noncomputable def Cells (c : Nat) (H : Hp) : Prop := ∃ is : List Int, H c = some (.lst (is.map .int)) ∧ (∀ i ∈ is, 0 ≤ i) ∧ is.length ≤ 1000
section
variable {H : Hp} {d : Nat} {Q : QV} {c r : Nat}
theorem c_pick {m : Int} (hm : 0 < m) (hc : Cells c H) (q : ∀ (k : Int) H', 0 ≤ k → k < m → Cells c H' → Exc [c] H H' → Q (.int k) H') : CN (d + 1) 600 [.ref c, .int m] H Q := by
  obtain ⟨is, h1, h2, h3⟩ := hc
  refine callF (P := P_law_pick) rfl rfl rfl ?_
  simp only [P_law_pick, sCons, sRet, pVal, pLoc, pIf, pOp2, pNil, pCons, pBlt, bLen, lenV, pLm, isLst, onLst, bPop, tCmp, bLt, bAr, retV, optQ_some, ifPK, op2V, op2K, cmpV, cmpK, consV, consK, bltK, isLstI_lst, lmK2, lmK, onLstI_lst, lenI_lst, seqK, retK, List.getElem?_cons_succ, List.getElem?_cons_zero, List.replicate_succ, List.replicate_zero, List.cons_append, List.nil_append, true_and, h1, List.length_map]
  refine ⟨by omega, ?_⟩
  induction is using List.casesOn with
  | nil => exact q 0 H (by omega) hm ⟨[], h1, h2, h3⟩ (Exc.refl _ _)
  | cons i is =>
    rw [decide_eq_true (by simp only [List.length_cons]; omega : (((i :: is).length : Nat) : Int) > 0)]
    simp only [List.map_cons, List.length_cons, Nat.reduceLeDiff]
    refine ⟨by simp only [List.length_cons] at h3; omega, ?_⟩
    rw [if_neg (by omega)]
    have hi := h2 i (.head _)
    try dsimp only
    rw [Int.fmod_eq_emod_of_nonneg _ (by omega)]
    exact q _ _ (Int.emod_nonneg _ (by omega)) (Int.emod_lt_of_pos _ hm) ⟨is, Hp.set_self _ _ _, fun i hi => h2 i (.tail _ hi), by simp only [List.length_cons] at h3; omega⟩ ((Exc.refl _ _).set (.inl (by simp)) _)
theorem Cells.fresh (h : Cells c H) {a : Nat} (ha : H a = none) (x : MO) : Cells c (H.set a x) := by
  obtain ⟨is, h1, h2, h3⟩ := h
  exact ⟨is, by rw [Hp.set_ne _ _ (ne_of h1 ha)]; exact h1, h2, h3⟩
/-- the single parts that a law's repeat may hold -/
inductive El : Nd → Prop
  | chars (k : Nat) : k < 3 → El (.sg (.chars (List.replicate k 49)))
  | len (n : Nat) : n < 3 → El (.sg (.len n))
  | any : El (.sg (.any [49]))
inductive Si : Nd → Prop
  | el {n : Nd} : El n → Si n
  | ways (b : Bool) : Si (.ways b)
theorem Exc.keep {A : List Nat} {H H' : Hp} (x : Exc A H H') {b : Nat} {o : MO} (h : H b = some o) (hn : b ∉ A) : H' b = some o := by rw [x b (by rw [h]; nofun) hn]; exact h
theorem Cells.ne (h : Cells c H) {a : Nat} (ha : H a = none) : a ∉ [c] := by
  obtain ⟨is, h1, _⟩ := h
  have := ne_of h1 ha
  simpa using this.symm
theorem ones_flat (k : Nat) : (List.replicate k [49]).flatten = List.replicate k 49 := by
  induction k with
  | zero => rfl
  | succ k ih => rw [List.replicate_succ, List.flatten_cons, ih, List.replicate_succ]; rfl
theorem c_one {m : Int} (hm : m = 3 ∨ m = 5) (hc : Cells c H) (q : ∀ n H', (El n ∨ m = 5 ∧ Si n) → Cells c H' → Exc [c] H H' → Q (n.v r) H') : CN (d + 2) 607 [.ref c, .int m] H Q := by
  refine callF (P := P_law_one) rfl rfl rfl ?_
  simp only [P_law_one, P_law_one_0, sCons, sAsg, pLoc, pNil, pCons, pCall, retV, consV, consK, callK, List.getElem?_cons_succ, List.getElem?_cons_zero, List.replicate_succ, List.replicate_zero, List.cons_append, List.nil_append]
  refine c_pick (by omega) hc fun k H1 hk0 hk h1 x1 => ?_
  obtain h | h | h | h | h : k = 0 ∨ k = 1 ∨ k = 2 ∨ (k = 3 ∧ m = 5) ∨ (k = 4 ∧ m = 5) := by omega
  · subst h
    simp only [P_law_one_1, P_law_one_2, P_law_one_3, sCons, sRet, sIf, pVal, pLoc, pOp2, pTup, pNil, pCons, pCall, tCmp, bEq, optQ_some, op2K, cmpV, cmpK, consV, consK, callK, seqK, ifK, asgK, List.getElem?_cons_succ, List.getElem?_cons_zero, List.set_cons_succ, List.set_cons_zero, Int.reduceBEq]
    refine c_pick (by omega) h1 fun k H2 hk0 hk h2 x2 => ?_
    obtain ⟨n, rfl⟩ := Int.eq_ofNat_of_zero_le hk0
    simp only [bMulS, op2V, List.length_cons, List.length_nil, Nat.reduceAdd, Nat.reduceLeDiff, and_true]
    rw [if_pos ⟨by omega, by omega⟩]
    simp only [pNil, atMost, optQ_some, consV, consK, tupK, seqK, retK, Int.toNat_natCast, ones_flat]
    exact q (.sg (.chars (List.replicate n 49))) H2 (.inl (.chars _ (by omega))) h2 (x1.trans x2)
  · subst h
    simp only [P_law_one_1, P_law_one_2, P_law_one_3, sCons, sNil, sRet, sIf, pVal, pLoc, pTup, pNil, pCons, pCall, tCmp, bEq, optQ_some, cmpV, cmpK, consV, consK, callK, seqK, ifK, asgK, List.getElem?_cons_succ, List.getElem?_cons_zero, List.set_cons_succ, List.set_cons_zero, Int.reduceBEq]
    refine c_pick (by omega) h1 fun k H2 hk0 hk h2 x2 => ?_
    obtain ⟨n, rfl⟩ := Int.eq_ofNat_of_zero_le hk0
    exact q (.sg (.len n)) H2 (.inl (.len _ (by omega))) h2 (x1.trans x2)
  · subst h
    simp only [P_law_one_1, P_law_one_2, P_law_one_3, sCons, sNil, sRet, sIf, pVal, pLoc, pOp2, pTup, pList, pNil, pCons, tCmp, bEq, bAr, bIdx, atMost, optQ_some, op2V, op2K, cmpV, cmpK, consV, consK, tupK, listK, seqK, retK, ifK, asgK, List.getElem?_cons_succ, List.getElem?_cons_zero, List.set_cons_succ, List.set_cons_zero, List.length_cons, List.length_nil, Nat.reduceAdd, Nat.reduceLeDiff, Int.reduceBEq, Int.reduceSub, Int.reduceToNat, Int.le_refl, and_true, Hp.set_self, reduceIte]
    intro a ha
    exact q (.sg (.any [49])) _ (.inl .any) (h1.fresh ha _) (x1.trans ((Exc.refl [c] H1).set (.inr ha) _))
  · obtain ⟨h, h8⟩ := h
    subst h
    simp only [P_law_one_1, P_law_one_2, P_law_one_3, sCons, sNil, sRet, sIf, pVal, pLoc, pOp2, pTup, pList, pNil, pCons, tCmp, bEq, bAr, bIdx, atMost, optQ_some, op2V, op2K, cmpV, cmpK, consV, consK, tupK, listK, seqK, retK, ifK, asgK, List.getElem?_cons_succ, List.getElem?_cons_zero, List.set_cons_succ, List.set_cons_zero, List.length_cons, List.length_nil, Nat.reduceAdd, Nat.reduceLeDiff, Int.reduceLE, Int.reduceBEq, Int.reduceSub, Int.reduceToNat, and_true, Hp.set_self, reduceIte]
    intro a ha
    exact q (.ways true) _ (.inr ⟨h8, .ways true⟩) (h1.fresh ha _) (x1.trans ((Exc.refl [c] H1).set (.inr ha) _))
  · obtain ⟨h, h8⟩ := h
    subst h
    simp only [P_law_one_1, P_law_one_2, P_law_one_3, sCons, sNil, sRet, sIf, pVal, pLoc, pOp2, pTup, pList, pNil, pCons, tCmp, bEq, bAr, bIdx, atMost, optQ_some, op2V, op2K, cmpV, cmpK, consV, consK, tupK, listK, seqK, retK, ifK, asgK, List.getElem?_cons_succ, List.getElem?_cons_zero, List.set_cons_succ, List.set_cons_zero, List.length_cons, List.length_nil, Nat.reduceAdd, Nat.reduceLeDiff, Int.reduceLE, Int.reduceBEq, Int.reduceSub, Int.reduceToNat, and_true, Hp.set_self, reduceIte]
    intro a ha
    exact q (.ways false) _ (.inr ⟨h8, .ways false⟩) (h1.fresh ha _) (x1.trans ((Exc.refl [c] H1).set (.inr ha) _))
/-- the parts -/
inductive Pa : Nd → Prop
  | si {n : Nd} : Si n → Pa n
  | cat {x y : Nd} : Si x → Si y → Pa (.cat x y)
  | alt {x y : Nd} : Si x → Si y → Pa (.alt x y)
  | arb {x : Nd} : El x → Pa (.arbno x)
  | arbc {x y : Nd} : El x → El y → Pa (.arbno (.cat x y))
theorem si_of {m : Int} {n : Nd} (h : El n ∨ m = 5 ∧ Si n) : Si n := h.elim .el (·.2)
theorem el_of {n : Nd} (h : El n ∨ (3 : Int) = 5 ∧ Si n) : El n := h.elim id fun z => absurd z.1 (by decide)
theorem c_part (hc : Cells c H) (q : ∀ n H', Pa n → Cells c H' → Exc [c] H H' → Q (n.v r) H') : CN (d + 3) 614 [.ref c] H Q := by
  refine callF (P := P_law_part) rfl rfl rfl ?_
  simp only [P_law_part, sCons, sAsg, pVal, pLoc, pNil, pCons, pCall, retV, consV, consK, callK, List.getElem?_cons_zero, List.replicate_succ, List.replicate_zero, List.cons_append, List.nil_append]
  refine c_pick (by omega) hc fun k H1 hk0 hk h1 x1 => ?_
  obtain h | h | h | h | h : k = 0 ∨ k = 1 ∨ k = 2 ∨ k = 3 ∨ k = 4 := by omega
  · subst h
    simp only [sCons, sRet, sIf, pVal, pLoc, pNil, pCons, pCall, tCmp, bEq, optQ_some, cmpV, cmpK, consV, consK, callK, seqK, ifK, asgK, List.getElem?_cons_succ, List.getElem?_cons_zero, List.set_cons_succ, List.set_cons_zero, Int.reduceBEq]
    exact c_one (r := r) (.inr rfl) h1 fun n H2 hn h2 x2 => q n H2 (.si (si_of hn)) h2 (x1.trans x2)
  · subst h
    simp only [sCons, sNil, sRet, sIf, pVal, pLoc, pOp2, pTup, pList, pNil, pCons, pCall, tCmp, bLt, bEq, bAr, bIdx, atMost, optQ_some, op2V, op2K, cmpV, cmpK, consV, consK, listK, callK, seqK, ifK, asgK, List.getElem?_cons_succ, List.getElem?_cons_zero, List.set_cons_succ, List.set_cons_zero, List.length_cons, List.length_nil, Nat.reduceAdd, Nat.reduceLeDiff, Int.reduceLT, Int.reduceBEq, Int.reduceSub, decide_true, Int.reduceToNat, Int.le_refl, and_true, Hp.set_self, reduceIte]
    intro a ha
    have X1 := x1.trans ((Exc.refl [c] H1).set (.inr ha) (.lst [V.str [99, 97, 116], V.str [97, 108, 116]]))
    refine c_one (r := r) (.inr rfl) (h1.fresh ha _) fun n H2 hn h2 x2 => ?_
    refine c_one (r := r) (.inr rfl) h2 fun n' H3 hn' h3 x3 => ?_
    exact q (.cat n n') H3 (.cat (si_of hn) (si_of hn')) h3 (X1.trans (x2.trans x3))
  · subst h
    simp only [sCons, sNil, sRet, sIf, pVal, pLoc, pOp2, pTup, pList, pNil, pCons, pCall, tCmp, bLt, bEq, bAr, bIdx, atMost, optQ_some, op2V, op2K, cmpV, cmpK, consV, consK, listK, callK, seqK, ifK, asgK, List.getElem?_cons_succ, List.getElem?_cons_zero, List.set_cons_succ, List.set_cons_zero, List.length_cons, List.length_nil, Nat.reduceAdd, Nat.reduceLeDiff, Int.reduceLE, Int.reduceLT, Int.reduceBEq, Int.reduceSub, decide_true, Int.reduceToNat, and_true, Hp.set_self, reduceIte]
    intro a ha
    have X1 := x1.trans ((Exc.refl [c] H1).set (.inr ha) (.lst [V.str [99, 97, 116], V.str [97, 108, 116]]))
    refine c_one (r := r) (.inr rfl) (h1.fresh ha _) fun n H2 hn h2 x2 => ?_
    refine c_one (r := r) (.inr rfl) h2 fun n' H3 hn' h3 x3 => ?_
    exact q (.alt n n') H3 (.alt (si_of hn) (si_of hn')) h3 (X1.trans (x2.trans x3))
  · subst h
    simp only [sCons, sNil, sRet, sIf, pVal, pLoc, pIf, pTup, pNil, pCons, pCall, tCmp, bLt, bEq, optQ_some, ifPK, cmpV, cmpK, consV, consK, callK, seqK, ifK, asgK, List.getElem?_cons_succ, List.getElem?_cons_zero, List.set_cons_succ, List.set_cons_zero, Int.reduceLT, Int.reduceBEq, decide_false]
    refine c_one (r := r) (.inl rfl) h1 fun n H2 hn h2 x2 => ?_
    exact q (.arbno n) H2 (.arb (el_of hn)) h2 (x1.trans x2)
  · subst h
    simp only [sCons, sNil, sRet, sIf, pVal, pLoc, pIf, pTup, pNil, pCons, pCall, tCmp, bLt, bEq, optQ_some, ifPK, cmpV, cmpK, consV, consK, callK, seqK, ifK, asgK, List.getElem?_cons_succ, List.getElem?_cons_zero, List.set_cons_succ, List.set_cons_zero, Int.reduceLT, Int.reduceBEq, decide_false]
    refine c_one (r := r) (.inl rfl) h1 fun n H2 hn h2 x2 => ?_
    refine c_one (r := r) (.inl rfl) h2 fun n' H3 hn' h3 x3 => ?_
    exact q (.arbno (.cat n n')) H3 (.arbc (el_of hn) (el_of hn')) h3 (x1.trans (x2.trans x3))
end

/-! law 2, the plain law: the counts of the ways are the coefficients of the series -/
noncomputable def ones (m : Nat) : List Nat := List.replicate m 49
noncomputable def Sg.long : Sg → Nat
  | .chars l => l.length
  | .len n => n
  | _ => 1
/-- a sum over 0 .. k -/
noncomputable def sumTo (f : Nat → Nat) (k : Nat) : Nat := ((List.range (k + 1)).map f).sum
noncomputable def arbF (f : Nat → Nat) : Nat → Nat → Nat
  | _, 0 => 1
  | 0, _ + 1 => 0
  | t + 1, k + 1 => sumTo (fun g => f (g + 1) * arbF f t (k - g)) k
noncomputable def ser : Nd → Nat → Nat
  | .sg g, k => if k = g.long then 1 else 0
  | .ways b, k => if b = true ∨ 0 < k then 1 else 0
  | .cat x y, k => sumTo (fun p => ser x p * ser y (k - p)) k
  | .alt x y, k => ser x k + ser y k
  | .arbno x, k => arbF (ser x) k k
  | .now x, k => ser x k
  | .fail, _ => 0
/-- the plain patterns of the law -/
inductive Pl : Nd → Prop
  | chars (k : Nat) : Pl (.sg (.chars (List.replicate k 49)))
  | len (k : Nat) : Pl (.sg (.len k))
  | any : Pl (.sg (.any [49]))
  | ways (b : Bool) : Pl (.ways b)
  | cat {x y : Nd} : Pl x → Pl y → Pl (.cat x y)
  | alt {x y : Nd} : Pl x → Pl y → Pl (.alt x y)
  | arbno {x : Nd} : Pl x → Pl (.arbno x)
theorem count_flatMap (f : Nat → List Nat) (e : Nat) : ∀ (L : List Nat), (L.flatMap f).count e = (L.map fun x => (f x).count e).sum
  | [] => rfl
  | x :: L => by rw [List.flatMap_cons, List.count_append, List.map_cons, List.sum_cons, count_flatMap f e L]
theorem sumTo_succ (f : Nat → Nat) (k : Nat) : sumTo f (k + 1) = sumTo f k + f (k + 1) := by
  unfold sumTo
  rw [List.range_succ, List.map_append, List.sum_append]
  simp
theorem sumTo_add (f g : Nat → Nat) : ∀ k, sumTo (fun p => f p + g p) k = sumTo f k + sumTo g k
  | 0 => by simp [sumTo]
  | k + 1 => by rw [sumTo_succ, sumTo_succ, sumTo_succ, sumTo_add f g k]; omega
theorem sumTo_congr {f g : Nat → Nat} : ∀ {k : Nat}, (∀ p, p ≤ k → f p = g p) → sumTo f k = sumTo g k
  | 0, h => by simp [sumTo, h 0 (Nat.le_refl _)]
  | k + 1, h => by rw [sumTo_succ, sumTo_succ, sumTo_congr fun p hp => h p (by omega), h (k + 1) (Nat.le_refl _)]
theorem sumTo_zero {f : Nat → Nat} {k : Nat} (h : ∀ p, p ≤ k → f p = 0) : sumTo f k = 0 := by
  rw [sumTo_congr (g := fun _ => 0) h]
  induction k with
  | zero => rfl
  | succ k ih => rw [sumTo_succ, ih fun p hp => h p (by omega)]
theorem sumTo_one {f : Nat → Nat} {k x : Nat} (hx : x ≤ k) (h : ∀ p, p ≤ k → p ≠ x → f p = 0) : sumTo f k = f x := by
  induction k with
  | zero => obtain rfl : x = 0 := by omega
            simp [sumTo]
  | succ k ih =>
    rw [sumTo_succ]
    by_cases e : x = k + 1
    · subst e; rw [sumTo_zero fun p hp => h p (by omega) (by omega)]; omega
    · rw [ih (by omega) fun p hp => h p (by omega), h (k + 1) (Nat.le_refl _) (by omega)]; omega
/-- a list's sum by the counts of its members -/
theorem sum_by_count (g : Nat → Nat) (i k : Nat) : ∀ (L : List Nat), (∀ x ∈ L, i ≤ x ∧ (x ≤ i + k ∨ g x = 0)) → (L.map g).sum = sumTo (fun p => L.count (i + p) * g (i + p)) k
  | [], _ => by rw [sumTo_zero fun p _ => by simp]; rfl
  | x :: L, h => by
    rw [List.map_cons, List.sum_cons, sum_by_count g i k L fun y hy => h y (.tail _ hy)]
    obtain ⟨h1, h2⟩ := h x (.head _)
    have e : ∀ p, (x :: L).count (i + p) * g (i + p) = (if x = i + p then g x else 0) + L.count (i + p) * g (i + p) := by
      intro p
      rw [List.count_cons]
      by_cases hx : x = i + p
      · rw [if_pos hx, if_pos (by simp [hx]), hx, Nat.add_mul]; omega
      · rw [if_neg hx, if_neg (by simp [hx])]; simp
    rw [sumTo_congr fun p _ => e p, sumTo_add]
    congr 1
    rcases h2 with h2 | h2
    · rw [sumTo_one (x := x - i) (by omega) fun p _ hp => if_neg (by omega), if_pos (by omega)]
    · rw [sumTo_zero fun p _ => by split <;> simp [h2], h2]
theorem ones_len (m : Nat) : (ones m).length = m := List.length_replicate
theorem endsN_ge {n : Nd} (h : Pl n) {m i e : Nat} (hi : i ≤ m) (he : e ∈ endsN (ones m) n i) : i ≤ e ∧ e ≤ m := by
  have := endsN_bd (s := ones m) n i (by rw [ones_len]; exact hi) e he
  rw [ones_len] at this
  exact this
theorem bal_ones {m i : Nat} (h : i < m) : balE (ones m) i = some (i + 1) := by
  unfold balE ones
  rw [List.drop_replicate, show m - i = (m - i - 1) + 1 by omega, List.replicate_succ]
  rfl
theorem bals_count {m e : Nat} (he : e ≤ m) : ∀ (k i : Nat), i ≤ e → m - i ≤ k → (balEs (ones m) k i).count e = if i < e then 1 else 0
  | 0, i, h1, h2 => by rw [if_neg (by omega)]; rfl
  | k + 1, i, h1, h2 => by
    unfold balEs
    by_cases h : i < m
    · rw [bal_ones h]
      dsimp only
      rw [List.count_cons]
      by_cases h3 : i + 1 ≤ e
      · rw [bals_count he k (i + 1) h3 (by omega)]
        simp only [beq_iff_eq]
        split <;> split <;> split <;> omega
      · obtain rfl : i = e := by omega
        have h4 : (balEs (ones m) k (i + 1)).count i = 0 := by
          rw [List.count_eq_zero]
          intro hm
          have := balEs_bd k (i + 1) i (by rw [ones_len]; omega) hm
          omega
        rw [h4]
        simp
    · have : balE (ones m) i = none := by
        unfold balE ones
        rw [List.drop_replicate, show m - i = 0 by omega]
        rfl
      rw [this, if_neg (by omega)]
      rfl
theorem sumTo_shift (f : Nat → Nat) : ∀ k, sumTo f (k + 1) = f 0 + sumTo (fun q => f (q + 1)) k
  | 0 => by simp [sumTo, List.range_succ]
  | k + 1 => by rw [sumTo_succ, sumTo_shift f k, sumTo_succ]; omega
theorem arbF_fuel (f : Nat → Nat) (t : Nat) : ∀ k, k ≤ t → arbF f t k = arbF f k k := by
  induction t using Nat.strongRecOn with
  | _ t ih =>
    intro k hk
    induction k using Nat.casesOn with
    | zero => induction t using Nat.casesOn <;> rfl
    | succ k =>
      obtain ⟨t, rfl⟩ : ∃ t', t = t' + 1 := ⟨t - 1, by omega⟩
      show sumTo _ k = sumTo _ k
      refine sumTo_congr fun p hp => ?_
      rw [ih t (by omega) (k - p) (by omega)]
      by_cases h : k = t
      · subst h; rw [ih k (by omega) (k - p) (by omega)]
      · rw [ih k (by omega) (k - p) (by omega)]
theorem arb_count {f : Nat → List Nat} {c : Nat → Nat} {m : Nat} (hf : ∀ i, i ≤ m → ∀ e ∈ f i, i ≤ e ∧ e ≤ m) (hc : ∀ i e, i ≤ e → e ≤ m → (f i).count e = c (e - i)) :
    ∀ (k i e : Nat), i ≤ e → e ≤ m → m - i ≤ k → (arbE f k i).count e = arbF c (e - i) (e - i)
  | 0, i, e, h1, h2, h3 => by
    obtain rfl : i = e := by omega
    rw [Nat.sub_self]
    simp [arbE, arbF]
  | k + 1, i, e, h1, h2, h3 => by
    have far : ∀ x, i < x → x ≤ m → e < x → (arbE f k x).count e = 0 := fun x _ hm hx => by
      rw [List.count_eq_zero]
      intro hmem
      have := (arbE_bd hf k x hm e hmem).1
      omega
    unfold arbE
    rw [List.count_cons, count_flatMap]
    by_cases he : i = e
    · subst he
      rw [Nat.sub_self]
      have z : ((f i).map fun x => (if i < x then arbE f k x else []).count i).sum = 0 := by
        rw [sum_by_count _ i 0 _ fun x hx => ?_]
        · simp [sumTo]
        · obtain ⟨g1, g2⟩ := hf i (by omega) x hx
          refine ⟨g1, ?_⟩
          by_cases hx2 : i < x
          · right; rw [if_pos hx2]; exact far x hx2 g2 hx2
          · left; omega
      rw [z]
      simp [arbF]
    · obtain ⟨j, rfl⟩ : ∃ j, e = i + (j + 1) := ⟨e - i - 1, by omega⟩
      rw [sum_by_count _ i (j + 1) _ fun x hx => ?_]
      · rw [if_neg (by simp), Nat.add_zero, sumTo_shift, show i + (j + 1) - i = j + 1 by omega]
        rw [show (f i).count (i + 0) * (if i < i + 0 then arbE f k (i + 0) else []).count (i + (j + 1)) = 0 by simp, Nat.zero_add]
        show _ = sumTo (fun g => c (g + 1) * arbF c j (j - g)) j
        refine sumTo_congr fun p hp => ?_
        rw [if_pos (by omega), hc i (i + (p + 1)) (by omega) (by omega), arb_count hf hc k (i + (p + 1)) (i + (j + 1)) (by omega) h2 (by omega), arbF_fuel c j (j - p) (by omega),
          show i + (p + 1) - i = p + 1 by omega, show i + (j + 1) - (i + (p + 1)) = j - p by omega]
      · obtain ⟨g1, g2⟩ := hf i (by omega) x hx
        refine ⟨g1, ?_⟩
        by_cases hx2 : i + (j + 1) < x
        · right; rw [if_pos (by omega)]; exact far x (by omega) g2 hx2
        · left; omega
theorem endsN_count {n : Nd} (h : Pl n) {m : Nat} : ∀ (i e : Nat), i ≤ e → e ≤ m → (endsN (ones m) n i).count e = ser n (e - i) := by
  induction h with
  | chars k =>
    intro i e h1 h2
    have es : ser (.sg (.chars (List.replicate k 49))) (e - i) = if e - i = k then 1 else 0 := by
      show (if e - i = (List.replicate k 49).length then 1 else 0) = _
      rw [List.length_replicate]
    rw [es]
    simp only [endsN, Sg.fin, List.length_replicate]
    by_cases hk : i + k ≤ m
    · rw [if_pos (by unfold ones; rw [List.drop_replicate, List.take_replicate]; congr 1; omega)]
      simp only [Option.toList_some, List.count_cons, List.count_nil, beq_iff_eq]
      split <;> split <;> omega
    · rw [if_neg (by unfold ones; rw [List.drop_replicate, List.take_replicate]; intro hh; have := congrArg List.length hh; simp only [List.length_replicate] at this; omega), if_neg (by omega)]
      rfl
  | len k =>
    intro i e h1 h2
    have es : ser (.sg (.len k)) (e - i) = if e - i = k then 1 else 0 := rfl
    rw [es]
    simp only [endsN, Sg.fin, ones_len]
    by_cases hk : i + k ≤ m
    · rw [if_pos hk]
      simp only [Option.toList_some, List.count_cons, List.count_nil, beq_iff_eq]
      split <;> split <;> omega
    · rw [if_neg hk, if_neg (by omega)]
      rfl
  | any =>
    intro i e h1 h2
    have es : ser (.sg (.any [49])) (e - i) = if e - i = 1 then 1 else 0 := rfl
    rw [es]
    simp only [endsN, Sg.fin, ones_len]
    by_cases hk : i < m
    · rw [if_pos ⟨hk, by simp [ones, List.getD, hk]⟩]
      simp only [Option.toList_some, List.count_cons, List.count_nil, beq_iff_eq]
      split <;> split <;> omega
    · rw [if_neg (fun z => hk z.1), if_neg (by omega)]
      rfl
  | ways b =>
    intro i e h1 h2
    induction b using Bool.casesOn with
    | true =>
      simp only [endsN, waysE, ser, ones_len]
      rw [if_pos (.inl trivial), List.Nodup.count ?_]
      · rw [if_pos (List.mem_map.mpr ⟨e - i, List.mem_range.mpr (by omega), by omega⟩)]
      · exact (List.nodup_range).map _ fun a b h => by intro hh; exact h (by omega)
    | false =>
      simp only [endsN, waysE, ser, ones_len]
      rw [bals_count h2 (m - i) i h1 (Nat.le_refl _)]
      simp only [Bool.false_eq_true, false_or]
      split <;> split <;> omega
  | @cat x y hx hy ihx ihy =>
    intro i e h1 h2
    simp only [endsN, ser]
    rw [count_flatMap, sum_by_count _ i (e - i) _ fun z hz => ?_]
    · refine sumTo_congr fun p hp => ?_
      rw [ihx i (i + p) (by omega) (by omega), ihy (i + p) e (by omega) h2, show i + p - i = p by omega, show e - (i + p) = e - i - p by omega]
    · obtain ⟨g1, g2⟩ := endsN_ge hx (by omega) hz
      refine ⟨g1, ?_⟩
      by_cases hx2 : e < z
      · right
        rw [List.count_eq_zero]
        intro hm
        have := (endsN_ge hy g2 hm).1
        omega
      · left; omega
  | @alt x y hx hy ihx ihy =>
    intro i e h1 h2
    simp only [endsN, ser]
    rw [List.count_append, ihx i e h1 h2, ihy i e h1 h2]
  | @arbno x hx ihx =>
    intro i e h1 h2
    simp only [endsN, ser, ones_len]
    exact arb_count (m := m) (fun i hi e he => endsN_ge hx hi he) ihx (m - i) i e h1 h2 (Nat.le_refl _)

/-! the steps are few -/
theorem sum_le_mul {f : Nat → Nat} {B : Nat} : ∀ {l : List Nat}, (∀ e ∈ l, f e ≤ B) → (l.map f).sum ≤ l.length * B
  | [], _ => by simp
  | e :: l, h => by
    have h1 := h e (.head _)
    have h2 := sum_le_mul (l := l) fun e he => h e (.tail _ he)
    simp only [List.map_cons, List.sum_cons, List.length_cons, Nat.succ_mul]
    omega
theorem flat_le_mul {f : Nat → List Nat} {B : Nat} : ∀ {l : List Nat}, (∀ e ∈ l, (f e).length ≤ B) → (l.flatMap f).length ≤ l.length * B
  | [], _ => by simp
  | e :: l, h => by
    have h1 := h e (.head _)
    have h2 := flat_le_mul (l := l) fun e he => h e (.tail _ he)
    simp only [List.flatMap_cons, List.length_append, List.length_cons, Nat.succ_mul]
    omega
/-- at most so many ways, at most so many steps -/
noncomputable def Few (s : List Nat) (n : Nd) (A B : Nat) : Prop := ∀ i, (endsN s n i).length ≤ A ∧ costN s n i ≤ B
section
variable {s : List Nat}
theorem few_sg (g : Sg) : Few s (.sg g) 1 1 := fun i => ⟨by cases h : g.fin s i <;> simp [endsN, h], Nat.le_refl _⟩
theorem balEs_len : ∀ n i, (balEs s n i).length ≤ n
  | 0, i => Nat.le_refl _
  | n + 1, i => by
    unfold balEs
    split
    · rename_i e _; simp only [List.length_cons]; have := balEs_len n e; omega
    · simp
theorem few_ways (hs : s.length ≤ 5) (b : Bool) : Few s (.ways b) 6 1 := fun i => ⟨by
  induction b using Bool.casesOn with
  | true => simp [endsN, waysE]; omega
  | false => have := balEs_len (s := s) (s.length - i) i; show (balEs s (s.length - i) i).length ≤ 6; omega, Nat.le_refl _⟩
theorem Few.mono {n : Nd} {A B A' B' : Nat} (h : Few s n A B) (ha : A ≤ A') (hb : B ≤ B') : Few s n A' B' := fun i => ⟨Nat.le_trans (h i).1 ha, Nat.le_trans (h i).2 hb⟩
theorem Few.cat {x y : Nd} {A B A' B' : Nat} (h : Few s x A B) (h' : Few s y A' B') : Few s (.cat x y) (A * A') (B + A * B') := fun i => by
  refine ⟨Nat.le_trans (flat_le_mul fun e _ => (h' e).1) (Nat.mul_le_mul_right _ (h i).1), ?_⟩
  have := Nat.le_trans (sum_le_mul (l := endsN s x i) fun e _ => (h' e).2) (Nat.mul_le_mul_right _ (h i).1)
  have := (h i).2
  show costN s x i + _ ≤ _
  omega
theorem Few.alt {x y : Nd} {A B A' B' : Nat} (h : Few s x A B) (h' : Few s y A' B') : Few s (.alt x y) (A + A') (B + B' + 1 + A) := fun i => by
  have h1 := h i; have h2 := h' i
  refine ⟨by show (endsN s x i ++ endsN s y i).length ≤ _; rw [List.length_append]; omega, ?_⟩
  show costN s x i + costN s y i + 1 + (endsN s x i).length ≤ _
  omega
theorem few_arb {x : Nd} {B : Nat} (hs : s.length ≤ 5) (h : Few s x 1 B) : Few s (.arbno x) 6 (6 * (B + 5)) := fun i => by
  have key : ∀ k i, (arbE (endsN s x) k i).length ≤ k + 1 ∧ arbC (endsN s x) (costN s x) k i ≤ (k + 1) * (B + 5) := by
    intro k
    induction k with
    | zero =>
      intro i
      have h1 := h i
      refine ⟨Nat.le_refl _, ?_⟩
      show 3 + costN s x i + (endsN s x i).length ≤ _
      omega
    | succ k ih =>
      intro i
      have h1 := h i
      constructor
      · show ((endsN s x i).flatMap fun e => if i < e then arbE (endsN s x) k e else []).length + 1 ≤ _
        have := flat_le_mul (l := endsN s x i) (f := fun e => if i < e then arbE (endsN s x) k e else []) (B := k + 1) fun e _ => by split; exact (ih e).1; simp
        have := Nat.mul_le_mul_right (k + 1) h1.1
        omega
      · show 3 + costN s x i + ((endsN s x i).map fun e => if i < e then 2 + arbC (endsN s x) (costN s x) k e else 1).sum ≤ _
        have := sum_le_mul (l := endsN s x i) (f := fun e => if i < e then 2 + arbC (endsN s x) (costN s x) k e else 1) (B := 2 + (k + 1) * (B + 5)) fun e _ => by
          split
          · have := (ih e).2; omega
          · omega
        have := Nat.mul_le_mul_right (2 + (k + 1) * (B + 5)) h1.1
        rw [Nat.succ_mul]
        omega
  obtain ⟨h1, h2⟩ := key (s.length - i) i
  refine ⟨by show (arbE _ _ i).length ≤ 6; omega, Nat.le_trans h2 (Nat.mul_le_mul_right _ (by omega))⟩
end
theorem few_el {s : List Nat} {n : Nd} (h : El n) : Few s n 1 1 := by induction h using El.casesOn <;> exact few_sg _
theorem few_si {s : List Nat} {n : Nd} (hs : s.length ≤ 5) (h : Si n) : Few s n 6 1 := by
  induction h using Si.casesOn with
  | el h => exact (few_el h).mono (by omega) (Nat.le_refl _)
  | ways b => exact few_ways hs b
theorem few_pa {s : List Nat} {n : Nd} (hs : s.length ≤ 5) (h : Pa n) : Few s n 36 50 := by
  induction h using Pa.casesOn with
  | si h => exact (few_si hs h).mono (by omega) (by omega)
  | cat h h' => exact ((few_si hs h).cat (few_si hs h')).mono (by omega) (by omega)
  | alt h h' => exact ((few_si hs h).alt (few_si hs h')).mono (by omega) (by omega)
  | arb h => exact (few_arb hs (few_el h)).mono (by omega) (by omega)
  | arbc h h' => exact (few_arb hs ((few_el h).cat (few_el h'))).mono (by omega) (by omega)
/-- the law's whole patterns -/
inductive Wh : Nd → Prop
  | cat {x y : Nd} : Pa x → Pa y → Wh (.cat x y)
  | alt {x y : Nd} : Pa x → Pa y → Wh (.alt x y)
theorem few_wh {s : List Nat} {n : Nd} (hs : s.length ≤ 5) (h : Wh n) : 1 + costN s n 0 + 2 * (endsN s n 0).length ≤ 97000 := by
  induction h using Wh.casesOn with
  | cat h h' => have := ((few_pa hs h).cat (few_pa hs h')) 0; omega
  | alt h h' => have := ((few_pa hs h).alt (few_pa hs h')) 0; omega
theorem el_w {n : Nd} (h : El n) : n.w ≤ 3 ∧ n.pl = true := by
  induction h using El.casesOn with
  | chars k hk => exact ⟨by simp only [Nd.w, Sg.cl, List.length_replicate]; omega, rfl⟩
  | _ => exact ⟨by simp [Nd.w, Sg.cl], rfl⟩
theorem si_w {n : Nd} (h : Si n) : n.w ≤ 3 ∧ n.pl = true := by
  induction h using Si.casesOn with
  | el h => exact el_w h
  | _ => exact ⟨by simp [Nd.w], rfl⟩
theorem pa_w {n : Nd} (h : Pa n) : n.w ≤ 20 ∧ n.pl = true := by
  induction h using Pa.casesOn with
  | si h => have := si_w h; exact ⟨by omega, this.2⟩
  | cat h h' => have := si_w h; have := si_w h'; exact ⟨by simp only [Nd.w]; omega, by simp [Nd.pl, *]⟩
  | alt h h' => have := si_w h; have := si_w h'; exact ⟨by simp only [Nd.w]; omega, by simp [Nd.pl, *]⟩
  | arb h => have := el_w h; exact ⟨by simp only [Nd.w]; omega, by simp [Nd.pl, *]⟩
  | arbc h h' => have := el_w h; have := el_w h'; exact ⟨by simp only [Nd.w]; omega, by simp [Nd.pl, *]⟩
theorem wh_w {n : Nd} (h : Wh n) : n.w ≤ 200 ∧ n.pl = true := by
  cases h with
  | cat h h' => have := pa_w h; have := pa_w h'; exact ⟨by simp only [Nd.w]; omega, by simp [Nd.pl, *]⟩
  | alt h h' => have := pa_w h; have := pa_w h'; exact ⟨by simp only [Nd.w]; omega, by simp [Nd.pl, *]⟩
theorem el_pl {n : Nd} (h : El n) : Pl n := by
  induction h using El.casesOn with
  | chars k _ => exact .chars k
  | len k _ => exact .len k
  | any => exact .any
theorem si_pl {n : Nd} (h : Si n) : Pl n := by
  induction h using Si.casesOn with
  | el h => exact el_pl h
  | ways b => exact .ways b
theorem pa_pl {n : Nd} (h : Pa n) : Pl n := by
  induction h using Pa.casesOn with
  | si h => exact si_pl h
  | cat h h' => exact .cat (si_pl h) (si_pl h')
  | alt h h' => exact .alt (si_pl h) (si_pl h')
  | arb h => exact .arbno (el_pl h)
  | arbc h h' => exact .arbno (.cat (el_pl h) (el_pl h'))
theorem wh_pl {n : Nd} (h : Wh n) : Pl n := by
  induction h using Wh.casesOn with
  | cat h h' => exact .cat (pa_pl h) (pa_pl h')
  | alt h h' => exact .alt (pa_pl h) (pa_pl h')
/-- the first pattern of the law: two steps, any number of times -/
noncomputable def twoN (a b : Nat) : Nd := .arbno (.alt (.sg (.len a)) (.sg (.len b)))
theorem two_pl (a b : Nat) : Pl (twoN a b) := .arbno (.alt (.len a) (.len b))
noncomputable def pairs2 : List (Nat × Nat) := [(2, 3), (3, 4), (2, 5), (3, 5), (2, 7)]
theorem two_facts : pairs2.all (fun p => decide (1 + costN (ones (p.1 * p.2 - p.2)) (twoN p.1 p.2) 0 + 2 * (endsN (ones (p.1 * p.2 - p.2)) (twoN p.1 p.2) 0).length ≤ 97000)) = true := by decide +kernel
noncomputable def serL (n : Nd) (m : Nat) : List Nat := (List.range (m + 1)).map (ser n)
theorem two_ser : pairs2.all (fun p => (serL (twoN p.1 p.2) (p.1 * p.2 - p.2)).count 0 * 2 == (p.1 - 1) * (p.2 - 1) && (ser (twoN p.1 p.2) (p.1 * p.2 - p.1 - p.2) == 0 && !((serL (twoN p.1 p.2) (p.1 * p.2 - p.2)).drop (p.1 * p.2 - p.1 - p.2 + 1)).contains 0)) = true := by decide +kernel

/-- a comprehension whose turns may make new things -/
theorem loop_ext {tgt : V → (List V → Prop) → Prop} {e : PT} {C : Cl} {K : List V → Hp → Prop} {H0 : Hp} (f : V → V) : ∀ (vs acc : List V) (H : Hp), acc.length + vs.length ≤ 100000 → Ext H0 H →
    (∀ v ∈ vs, ∀ (H : Hp) (Kt : V → Hp → Prop), Ext H0 H → (∀ H', Ext H0 H' → Kt (f v) H') → tgt v fun ρ => e C ρ H Kt) →
    (∀ H', Ext H0 H' → K (acc ++ vs.map f) H') → loopC (fun _ => True) tgt tTrue e vs acc C H K
  | [], acc, H, hl, X, h, q => ⟨trivial, by simpa using q H X⟩
  | v :: vs, acc, H, hl, X, h, q => by
    simp only [List.length_cons] at hl
    refine ⟨trivial, ?_⟩
    refine h v (.head _) H (fun y H => acc.length ≤ 100000 ∧ loopC (fun _ => True) tgt tTrue e vs (acc ++ [y]) C H K) X fun H' X' => ⟨by omega, ?_⟩
    refine loop_ext f vs _ H' (by simp only [List.length_append, List.length_cons, List.length_nil]; omega) X' (fun v hv => h v (.tail _ hv)) fun H'' X'' => ?_
    simpa using q H'' X''
noncomputable def natsV (l : List Nat) : List V := l.map fun k => V.int (k : Nat)
theorem rangeV_nats (m : Nat) : rangeV 0 ((m : Int) + 1) = natsV (List.range (m + 1)) := by
  unfold rangeV natsV
  rw [show ((m : Int) + 1 - 0).toNat = m + 1 by omega]
  refine List.map_congr_left fun i _ => ?_
  rw [Int.zero_add]
section
variable {H : Hp} {d : Nat} {Q : QV} {r m : Nat}
theorem long_loop {ρ : List V} {L : Nat} (h3 : ρ.getD 3 .un = .int (L : Nat)) {K : List V → Hp → Prop} (hm : m ≤ 100) (q : ∀ H', Ext H H' → K (natsV ((List.range (m + 1)).map fun k => if k = L then 1 else 0)) H') :
    loopC (fun _ => True) (tgName 1 (cEnv [none, none, none, some 3] ρ)) tTrue (pBlt bInt (pCons (pOfT (tCmp bEq (pLoc 1) (pLoc 3))) pNil)) (rangeV 0 (↑m + 1)) [] (CN d) H K := by
  rw [rangeV_nats]
  refine loop_ext (H0 := H) (fun v => match v with | .int i => .int (if i = (L : Nat) then 1 else 0) | v => v) _ _ _ (by simp [natsV]; omega) (Ext.refl H) (fun v hv H1 Kt X q1 => ?_) fun H1 X => ?_
  · obtain ⟨i, hi, rfl⟩ := List.mem_map.mp hv
    simp only [tgName, cEnv, bInt, h3, pLoc, pNil, pCons, pBlt, pOfT, tCmp, bEq, optQ_some, cmpV, cmpK, ofTK, consV, consK, bltK, List.getElem?_cons_succ, List.getElem?_cons_zero, List.set_cons_succ, List.set_cons_zero, List.map_cons, List.map_nil]
    have := q1 H1 X
    dsimp only at this
    by_cases e : (i : Int) = (L : Nat)
    · rw [if_pos e] at this; rw [beq_iff_eq.mpr e]; exact this
    · rw [if_neg e] at this; rw [beq_eq_false_iff_ne.mpr e]; exact this
  · have := q H1 X
    rw [List.nil_append]
    have e : (natsV (List.range (m + 1))).map (fun v => match v with | .int i => V.int (if i = (L : Nat) then 1 else 0) | v => v) = natsV ((List.range (m + 1)).map fun k => if k = L then 1 else 0) := by
      unfold natsV
      rw [List.map_map, List.map_map]
      refine List.map_congr_left fun i _ => ?_
      show V.int (if (i : Int) = (L : Nat) then 1 else 0) = V.int ((if i = L then 1 else 0 : Nat) : Int)
      by_cases e : i = L
      · rw [if_pos (by omega), if_pos e]; rfl
      · rw [if_neg (by omega), if_neg e]; rfl
    rw [e]
    exact this
/-- what the series of a pattern does -/
noncomputable def Ser (r m : Nat) (D : Nat) (n : Nd) : Prop := ∀ (d : Nat) (H : Hp) (Q : QV), D ≤ d → (∀ a H', H a = none → H' a = some (.lst (natsV (serL n m))) → Ext H H' → Q (.ref a) H') → CN d 619 [n.v r, .int m] H Q
theorem ser_sg {g : Sg} (h : (∃ k, k ≤ 100 ∧ g = .chars (List.replicate k 49)) ∨ (∃ k, g = .len k) ∨ g = .any [49]) (hm : m ≤ 100) : Ser r m 1 (.sg g) := by
  intro d H Q hd q
  obtain ⟨d, rfl⟩ : ∃ d', d = d' + 1 := ⟨d - 1, by omega⟩
  have fin : ∀ (L : Nat), (∀ k, ser (.sg g) k = if k = L then 1 else 0) → ∀ H1, Ext H H1 → newL (fun v H' => Q v H') (natsV ((List.range (m + 1)).map fun k => if k = L then 1 else 0)) H1 := by
    intro L hL H1 X a ha
    refine q a _ (X.none ha) ?_ (X.set (X.none ha) _)
    rw [Hp.set_self]
    congr 3
    exact List.map_congr_left fun i _ => (hL i).symm
  refine callF (P := P_law_series) rfl rfl rfl ?_
  rcases h with ⟨k, hk, rfl⟩ | ⟨k, rfl⟩ | rfl
  · simp only [P_law_series, P_law_series_0, P_law_series_1, Nd.v, Sg.kind, Sg.told, sCons, sRet, sAsg, sIf, pVal, pLoc, pIf, pOp2, pTup, pNil, pCons, pBlt, bLen, lenV, tCmp, bIn, bEq, bAr, bIdx, retV, atMost, optQ_some, ifPK, op2V, op2K, cmpV, cmpK, consV, consK, tupK, bltK, seqK, ifK, asgK, strsOf, List.getElem?_cons_succ, List.getElem?_cons_zero, List.set_cons_succ, List.set_cons_zero, List.replicate_succ, List.replicate_zero, List.cons_append, List.nil_append, List.length_cons, List.length_nil, nb2, nb3, nb4, Nat.reduceBEq, Nat.reduceAdd, Nat.reduceLeDiff, Int.reduceLE, Int.reduceToNat, Int.le_refl, Bool.and_true, Bool.and_false, List.contains_cons, List.contains_nil, Bool.or_false, and_true, Option.map_some, reduceIte, pComp, pCompR, rgQ]
    refine ⟨by simp; omega, by simp [frB], by simp [rangeOk]; omega, ?_⟩
    refine long_loop (L := k) (by simp) hm (fin k fun i => ?_)
    show (if i = (List.replicate k 49).length then 1 else 0) = _
    rw [List.length_replicate]
  · simp only [P_law_series, P_law_series_0, P_law_series_1, Nd.v, Sg.kind, Sg.told, sCons, sRet, sAsg, sIf, pVal, pLoc, pIf, pOp2, pTup, pNil, pCons, tCmp, bIn, bEq, bAr, bIdx, retV, atMost, optQ_some, ifPK, op2V, op2K, cmpV, cmpK, consV, consK, tupK, seqK, ifK, asgK, strsOf, List.getElem?_cons_succ, List.getElem?_cons_zero, List.set_cons_succ, List.set_cons_zero, List.replicate_succ, List.replicate_zero, List.cons_append, List.nil_append, List.length_cons, List.length_nil, nb1, nb3, nb4, Nat.reduceBEq, Nat.reduceAdd, Nat.reduceLeDiff, Int.reduceLE, Int.reduceToNat, Int.le_refl, Bool.and_true, Bool.and_false, List.contains_cons, List.contains_nil, Bool.or_false, Bool.or_true, and_true, Option.map_some, reduceIte, pComp, pCompR, rgQ]
    refine ⟨by simp [frB], by simp [rangeOk]; omega, ?_⟩
    exact long_loop (L := k) rfl hm (fin k fun i => rfl)
  · simp only [P_law_series, P_law_series_0, P_law_series_1, Nd.v, Sg.kind, Sg.told, sCons, sRet, sAsg, sIf, pVal, pLoc, pIf, pOp2, pTup, pNil, pCons, pBlt, bLen, lenV, tCmp, bIn, bEq, bAr, bIdx, retV, atMost, optQ_some, ifPK, op2V, op2K, cmpV, cmpK, consV, consK, tupK, bltK, seqK, ifK, asgK, strsOf, List.getElem?_cons_succ, List.getElem?_cons_zero, List.set_cons_succ, List.set_cons_zero, List.replicate_succ, List.replicate_zero, List.cons_append, List.nil_append, List.length_cons, List.length_nil, nb1, nb3, nb4, Nat.reduceBEq, Nat.reduceAdd, Nat.reduceLeDiff, Int.reduceLE, Int.reduceToNat, Int.le_refl, Bool.and_true, Bool.and_false, List.contains_cons, List.contains_nil, Bool.or_false, Bool.or_true, true_and, and_true, Option.map_some, reduceIte, pComp, pCompR, rgQ]
    refine ⟨by simp [frB], by simp [rangeOk]; omega, ?_⟩
    exact long_loop (L := 1) rfl hm (fin 1 fun i => rfl)
theorem ser_ways (b : Bool) (hm : m ≤ 100) : Ser r m 1 (.ways b) := by
  intro d H Q hd q
  obtain ⟨d, rfl⟩ : ∃ d', d = d' + 1 := ⟨d - 1, by omega⟩
  refine callF (P := P_law_series) rfl rfl rfl ?_
  induction b using Bool.casesOn
  · simp only [P_law_series, P_law_series_0, P_law_series_1, P_law_series_2, Nd.v, waysK, sCons, sNil, sRet, sAsg, sIf, pVal, pLoc, pOp2, pTup, pNil, pCons, tCmp, tOr, bIn, bEq, bAr, bIdx, retV, atMost, optQ_some, op2V, op2K, cmpV, cmpK, orK, consV, consK, tupK, seqK, ifK, asgK, strsOf, List.getElem?_cons_succ, List.getElem?_cons_zero, List.set_cons_succ, List.set_cons_zero, List.replicate_succ, List.replicate_zero, List.cons_append, List.nil_append, List.length_cons, List.length_nil, nb1, nb3, nb4, Nat.reduceBEq, Nat.reduceAdd, Nat.reduceLeDiff, Int.reduceToNat, Int.le_refl, Bool.and_true, Bool.and_false, List.contains_cons, List.contains_nil, Bool.or_false, and_true, Option.map_some, reduceIte, pComp, pCompR, rgQ]
    refine ⟨by simp [frB], by simp [rangeOk]; omega, ?_⟩
    rw [rangeV_nats]
    refine loop_ext (H0 := H) (fun v => match v with | .int i => .int (if i > 0 then 1 else 0) | v => v) _ _ _ (by simp [natsV]; omega) (Ext.refl H) (fun v hv H1 Kt X q1 => ?_) fun H1 X => ?_
    · obtain ⟨i, hi, rfl⟩ := List.mem_map.mp hv
      simp only [tgName, cEnv, bInt, pVal, pLoc, pNil, pCons, pBlt, pOrV, pOfT, tCmp, bLt, bEq, optQ_some, cmpV, cmpK, ofTK, consV, consK, bltK, List.getElem?_cons_succ, List.getElem?_cons_zero, List.set_cons_succ, List.set_cons_zero, nb3, nb4, Nat.reduceBEq, Bool.and_true, Bool.and_false, reduceIte, List.map_cons, List.map_nil, List.getD_cons_succ, List.getD_cons_zero]
      have := q1 H1 X
      dsimp only at this
      by_cases e : (i : Int) > 0
      · rw [if_pos e] at this; rw [decide_eq_true e]; exact this
      · rw [if_neg e] at this; rw [decide_eq_false e]; exact this
    · intro a ha
      refine q a _ (X.none ha) ?_ (X.set (X.none ha) _)
      rw [Hp.set_self, List.nil_append]
      unfold natsV serL
      rw [List.map_map, List.map_map]
      congr 2
      refine List.map_congr_left fun i _ => ?_
      show V.int (if (i : Int) > 0 then 1 else 0) = V.int ((if false = true ∨ 0 < i then 1 else 0 : Nat) : Int)
      by_cases e : 0 < i
      · rw [if_pos (by omega), if_pos (.inr e)]; rfl
      · rw [if_neg (by omega), if_neg (by simp; omega)]; rfl
  · simp only [P_law_series, P_law_series_0, P_law_series_1, P_law_series_2, Nd.v, waysK, sCons, sNil, sRet, sAsg, sIf, pVal, pLoc, pOp2, pTup, pNil, pCons, tCmp, tOr, bIn, bEq, bAr, bIdx, retV, atMost, optQ_some, op2V, op2K, cmpV, cmpK, orK, consV, consK, tupK, seqK, ifK, asgK, strsOf, List.getElem?_cons_succ, List.getElem?_cons_zero, List.set_cons_succ, List.set_cons_zero, List.replicate_succ, List.replicate_zero, List.cons_append, List.nil_append, List.length_cons, List.length_nil, nb1, nb3, nb4, Nat.reduceBEq, Nat.reduceAdd, Nat.reduceLeDiff, Int.reduceToNat, Int.le_refl, Bool.and_true, Bool.and_false, List.contains_cons, List.contains_nil, Bool.or_false, and_true, Option.map_some, reduceIte, pComp, pCompR, rgQ]
    refine ⟨by simp [frB], by simp [rangeOk]; omega, ?_⟩
    rw [rangeV_nats]
    refine loop_ext (H0 := H) (fun _ => .int 1) _ _ _ (by simp [natsV]; omega) (Ext.refl H) (fun v hv H1 Kt X q1 => ?_) fun H1 X => ?_
    · obtain ⟨i, hi, rfl⟩ := List.mem_map.mp hv
      simp only [tgName, cEnv, bInt, pVal, pLoc, pNil, pCons, pBlt, pOrV, pOfT, tCmp, bLt, bEq, optQ_some, cmpV, cmpK, ofTK, consV, consK, bltK, List.getElem?_cons_succ, List.getElem?_cons_zero, List.set_cons_succ, List.set_cons_zero, nb3, nb4, Nat.reduceBEq, Bool.and_true, reduceIte, List.map_cons, List.map_nil, List.getD_cons_succ, List.getD_cons_zero]
      exact q1 H1 X
    · intro a ha
      refine q a _ (X.none ha) ?_ (X.set (X.none ha) _)
      rw [Hp.set_self, List.nil_append]
      unfold natsV serL
      rw [List.map_map, List.map_map]
      congr 2
theorem serL_len (n : Nd) (m : Nat) : (natsV (serL n m)).length = m + 1 := by simp [natsV, serL]
theorem serL_get {n : Nd} {i m : Nat} (hi : i ≤ m) : (natsV (serL n m))[i]? = some (.int (ser n i : Nat)) := by
  unfold natsV serL
  rw [List.map_map, List.getElem?_map, List.getElem?_range (by omega)]
  rfl
theorem fin_nats {n : Nd} {f : V → V} {m : Nat} (hf : ∀ i, i ≤ m → f (.int (i : Nat)) = .int (ser n i : Nat)) : (natsV (List.range (m + 1))).map f = natsV (serL n m) := by
  unfold natsV serL
  rw [List.map_map, List.map_map]
  refine List.map_congr_left fun i hi => ?_
  exact hf i (by have := List.mem_range.mp hi; omega)
/-- two series are added -/
theorem ser_alt {x y : Nd} {D : Nat} (hx : Ser r m D x) (hy : Ser r m D y) (hm : m ≤ 100) : Ser r m (D + 1) (.alt x y) := by
  intro d H Q hd q
  obtain ⟨d, rfl⟩ : ∃ d', d = d' + 1 := ⟨d - 1, by omega⟩
  refine callF (P := P_law_series) rfl rfl rfl ?_
  simp only [P_law_series, P_law_series_0, P_law_series_1, P_law_series_2, P_law_series_3, Nd.v, sCons, sNil, sAsg, sIf, pVal, pLoc, pOp2, pTup, pNil, pCons, pCall, tCmp, tOr, bIn, bEq, bIdx, retV, atMost, optQ_some, op2V, op2K, cmpV, cmpK, orK, consV, consK, tupK, callK, seqK, ifK, asgK, strsOf, List.getElem?_cons_succ, List.getElem?_cons_zero, List.set_cons_succ, List.set_cons_zero, List.replicate_succ, List.replicate_zero, List.cons_append, List.nil_append, List.length_cons, List.length_nil, nb1, nb3, nb4, Nat.reduceBEq, Nat.reduceAdd, Nat.reduceLeDiff, Int.reduceLE, Int.reduceToNat, Int.le_refl, Bool.and_true, Bool.and_false, List.contains_cons, List.contains_nil, Bool.or_false, and_true, Option.map_some, reduceIte]
  refine hx d H _ (by omega) fun a1 H1 n1 h1 X1 => ?_
  simp only [P_law_series_4, P_law_series_5, sCons, sNil, sAsg, sIf, pVal, pLoc, pOp2, pNil, pCons, pCall, tCmp, bEq, bIdx, optQ_some, op2V, op2K, cmpV, cmpK, consV, consK, callK, seqK, ifK, asgK, List.getElem?_cons_succ, List.getElem?_cons_zero, List.set_cons_succ, List.set_cons_zero, List.length_cons, List.length_nil, nb1, nb4, Nat.reduceBEq, Nat.reduceAdd, Nat.reduceLeDiff, Int.reduceLE, Int.reduceToNat, Bool.and_false, and_true, reduceIte]
  refine hy d H1 _ (by omega) fun a2 H2 n2 h2 X2 => ?_
  simp only [P_law_series_6, sCons, sRet, sIf, pVal, pLoc, pOp2, tCmp, bEq, bAr, optQ_some, op2V, op2K, cmpV, cmpK, seqK, ifK, asgK, List.getElem?_cons_succ, List.getElem?_cons_zero, List.set_cons_succ, List.set_cons_zero, nb3, nb4, Nat.reduceBEq, Bool.and_true, pComp, pCompR, rgQ]
  have h12 : H2 a1 = some (.lst (natsV (serL x m))) := (X2 a1 (by rw [h1]; nofun)).trans h1
  refine ⟨by simp [frB], by simp [rangeOk]; omega, ?_⟩
  rw [rangeV_nats]
  refine loop_ext (H0 := H2) (fun v => match v with | .int i => .int ((ser x i.toNat + ser y i.toNat : Nat) : Int) | v => v) _ _ _ (by simp [natsV]; omega) (Ext.refl H2) (fun v hv H3 Kt X q1 => ?_) fun H3 X => ?_
  · obtain ⟨i, hi, rfl⟩ := List.mem_map.mp hv
    have hi := List.mem_range.mp hi
    have g1 : H3 a1 = _ := (X a1 (by rw [h12]; nofun)).trans h12
    have g2 : H3 a2 = _ := (X a2 (by rw [h2]; nofun)).trans h2
    simp only [tgName, cEnv, pLoc, pOp2, bIdx, op2V, op2K, List.getElem?_cons_succ, List.getElem?_cons_zero, List.set_cons_succ, List.set_cons_zero, List.map_cons, List.map_nil, List.getD_cons_succ, List.getD_cons_zero, g1]
    rw [if_pos ⟨nn _, by rw [serL_len]; omega⟩, Int.toNat_natCast, serL_get (by omega)]
    simp only [pLoc, pOp2, bIdx, optQ_some, op2V, op2K, List.getElem?_cons_succ, List.getElem?_cons_zero, g2]
    rw [if_pos ⟨nn _, by rw [serL_len]; omega⟩, Int.toNat_natCast, serL_get (by omega)]
    simp only [bAr, bAr, optQ_some, op2V]
    have := q1 H3 X
    simpa using this
  · intro a ha
    refine q a _ (X1.none (X2.none (X.none ha))) ?_ (((X1.trans X2).trans X).set (X1.none (X2.none (X.none ha))) _)
    rw [Hp.set_self, List.nil_append, fin_nats (n := .alt x y)]
    intro i hi
    show V.int _ = V.int _
    rw [Int.toNat_natCast]
    rfl
/-- the sum of a list of numbers -/
theorem intsOf_nats (l : List Nat) : intsOf (natsV l) = some (l.map fun k => ((k : Nat) : Int)) := by
  induction l with
  | nil => rfl
  | cons a l ih => show (intsOf (natsV l)).map _ = _; rw [ih]; rfl
theorem sum_nats (l : List Nat) : (l.map fun k => ((k : Nat) : Int)).sum = ((l.sum : Nat) : Int) := by
  induction l with
  | nil => rfl
  | cons a l ih => rw [List.map_cons, List.sum_cons, ih, List.sum_cons, Int.natCast_add]
end

theorem two64 : (2 : Int) ^ 64 = 18446744073709551616 := by decide
theorem small_nat {k : Nat} (h : k < 1000000000) : small ((k : Nat) : Int) = true := by
  unfold small
  rw [two64]
  simp only [Bool.and_eq_true, decide_eq_true_eq]
  omega
theorem bAr_mul {i j : Int} {H : Hp} (h : small i = true) : bAr .Mult (.int i) (.int j) H = some (.int (i * j)) := if_pos h
theorem e_op2V {B : V → V → Hp → Option V} {x y v : V} {Q : QV} {H : Hp} (h : B x y H = some v) (q : Q v H) : optQ (op2V B x Q) H (some y) := by
  show optQ Q H (B x y H)
  rw [h]
  exact q
section
variable {H : Hp} {d : Nat} {Q : QV} {r m : Nat}
theorem ser_cat {x y : Nd} {D : Nat} (hx : Ser r m D x) (hy : Ser r m D y) (hm : m ≤ 100) (hs : ∀ p, p ≤ m → ser x p < 1000000000) : Ser r m (D + 1) (.cat x y) := by
  intro d H Q hd q
  obtain ⟨d, rfl⟩ : ∃ d', d = d' + 1 := ⟨d - 1, by omega⟩
  refine callF (P := P_law_series) rfl rfl rfl ?_
  simp only [P_law_series, P_law_series_0, P_law_series_1, P_law_series_2, P_law_series_3, Nd.v, sCons, sNil, sAsg, sIf, pVal, pLoc, pOp2, pTup, pNil, pCons, pCall, tCmp, tOr, bIn, bEq, bIdx, retV, atMost, optQ_some, op2V, op2K, cmpV, cmpK, orK, consV, consK, tupK, callK, seqK, ifK, asgK, strsOf, List.getElem?_cons_succ, List.getElem?_cons_zero, List.set_cons_succ, List.set_cons_zero, List.replicate_succ, List.replicate_zero, List.cons_append, List.nil_append, List.length_cons, List.length_nil, nb1, nb3, nb4, Nat.reduceBEq, Nat.reduceAdd, Nat.reduceLeDiff, Int.reduceLE, Int.reduceToNat, Int.le_refl, Bool.and_true, Bool.and_false, List.contains_cons, List.contains_nil, Bool.or_false, and_true, Option.map_some, reduceIte]
  refine hx d H _ (by omega) fun a1 H1 n1 h1 X1 => ?_
  simp only [P_law_series_4, P_law_series_5, sCons, sNil, sAsg, sIf, pVal, pLoc, pOp2, pNil, pCons, pCall, tCmp, bEq, bIdx, optQ_some, op2V, op2K, cmpV, cmpK, consV, consK, callK, seqK, ifK, asgK, List.getElem?_cons_succ, List.getElem?_cons_zero, List.set_cons_succ, List.set_cons_zero, List.length_cons, List.length_nil, nb1, nb4, Nat.reduceBEq, Nat.reduceAdd, Nat.reduceLeDiff, Int.reduceLE, Int.reduceToNat, Bool.and_false, and_true, reduceIte]
  refine hy d H1 _ (by omega) fun a2 H2 n2 h2 X2 => ?_
  simp only [P_law_series_6, P_law_series_7, sCons, sNil, sRet, sIf, pVal, pLoc, pOp2, tCmp, bEq, bAr, optQ_some, op2V, op2K, cmpV, cmpK, seqK, ifK, asgK, List.getElem?_cons_succ, List.getElem?_cons_zero, List.set_cons_succ, List.set_cons_zero, nb3, nb4, Nat.reduceBEq, Bool.and_true, Bool.and_false, pComp, pCompR, rgQ]
  have h12 : H2 a1 = some (.lst (natsV (serL x m))) := (X2 a1 (by rw [h1]; nofun)).trans h1
  refine ⟨by simp [frB], by simp [rangeOk]; omega, ?_⟩
  rw [rangeV_nats]
  refine loop_ext (H0 := H2) (fun v => match v with | .int i => .int ((ser (.cat x y) i.toNat : Nat) : Int) | v => v) _ _ _ (by simp [natsV]; omega) (Ext.refl H2) (fun v hv H3 Kt X q1 => ?_) fun H3 X => ?_
  · obtain ⟨k, hk, rfl⟩ := List.mem_map.mp hv
    have hk := List.mem_range.mp hk
    simp only [tgName, cEnv, pComp, pCompR, rgQ, pVal, pLoc, pOp2, pCons, pBlt, bAr, optQ_some, op2V, op2K, List.getElem?_cons_succ, List.getElem?_cons_zero, List.set_cons_succ, List.set_cons_zero, List.map_cons, List.map_nil, List.getD_cons_succ, List.getD_cons_zero]
    refine ⟨by simp [frB], by simp [rangeOk]; omega, ?_⟩
    rw [rangeV_nats]
    refine loop_ext (H0 := H2) (fun v => match v with | .int i => .int ((ser x i.toNat * ser y (k - i.toNat) : Nat) : Int) | v => v) _ _ _ (by simp [natsV]; omega) X (fun v hv H4 Kt4 X4 q4 => ?_) fun H4 X4 => ?_
    · obtain ⟨p, hp, rfl⟩ := List.mem_map.mp hv
      have hp := List.mem_range.mp hp
      have g1 : H4 a1 = _ := (X4 a1 (by rw [h12]; nofun)).trans h12
      have g2 : H4 a2 = _ := (X4 a2 (by rw [h2]; nofun)).trans h2
      simp only [tgName, pLoc, pOp2, bIdx, op2V, op2K, List.getElem?_cons_succ, List.getElem?_cons_zero, List.set_cons_succ, List.set_cons_zero, g1]
      rw [if_pos ⟨nn _, by rw [serL_len]; omega⟩, Int.toNat_natCast, serL_get (by omega)]
      simp only [bAr, pLoc, pOp2, bAr, bIdx, optQ_some, op2V, op2K, List.getElem?_cons_succ, List.getElem?_cons_zero, g2]
      rw [if_pos ⟨by omega, by rw [serL_len]; omega⟩, show ((k : Int) - (p : Int)).toNat = k - p by omega, serL_get (by omega)]
      have hsm : small ((ser x p : Nat) : Int) = true := small_nat (hs p (by omega))
      have e1 := @bAr_mul ((ser x p : Nat) : Int) ((ser y (k - p) : Nat) : Int) H4 hsm
      generalize hB : bAr .Mult = B at e1 ⊢
      refine e_op2V e1 ?_
      clear e1 hB
      have := q4 H4 X4
      simpa using this
    · intro a ha
      simp only [bSum, pNil, consV, consK, bltK, List.nil_append, Hp.set_self, List.nil_append]
      have e : (natsV (List.range (k + 1))).map (fun v => match v with | .int i => V.int ((ser x i.toNat * ser y (k - i.toNat) : Nat) : Int) | v => v) = natsV ((List.range (k + 1)).map fun p => ser x p * ser y (k - p)) := by
        unfold natsV
        rw [List.map_map, List.map_map]
        refine List.map_congr_left fun i _ => ?_
        show V.int _ = V.int _
        rw [Int.toNat_natCast]
      rw [e, intsOf_nats]
      dsimp only
      rw [sum_nats]
      have := q1 _ (X4.set (X4.none ha) (.lst (natsV ((List.range (k + 1)).map fun p => ser x p * ser y (k - p)))))
      simpa [ser, sumTo] using this
  · intro a ha
    refine q a _ (X1.none (X2.none (X.none ha))) ?_ (((X1.trans X2).trans X).set (X1.none (X2.none (X.none ha))) _)
    rw [Hp.set_self, List.nil_append, fin_nats (n := .cat x y)]
    intro i hi
    show V.int _ = V.int _
    rw [Int.toNat_natCast]
end

theorem rangeV_one (k : Nat) : rangeV 1 ((k : Int) + 1) = natsV ((List.range k).map (· + 1)) := by
  unfold rangeV natsV
  rw [show ((k : Int) + 1 - 1).toNat = k by omega, List.map_map]
  refine List.map_congr_left fun i _ => ?_
  show V.int (1 + (i : Int)) = V.int ((i + 1 : Nat) : Int)
  congr 1
  omega
theorem arb_step (f : Nat → Nat) (k : Nat) : arbF f (k + 1) (k + 1) = ((List.range (k + 1)).map fun g => f (g + 1) * arbF f (k - g) (k - g)).sum := by
  show sumTo _ k = _
  unfold sumTo
  congr 1
  refine List.map_congr_left fun g hg => ?_
  rw [arbF_fuel f k (k - g) (by omega)]
section
variable {H : Hp} {d : Nat} {Q : QV} {r m : Nat}
theorem arb_turn {x : Nd} {a1 f k : Nat} {n kd v3 v7 v8 v9 v10 v11 : V} {K : QS} (hk : k + 1 ≤ m) (hm : m ≤ 100) (hs : ∀ p, p ≤ m → ser x p < 1000000000)
    (h1 : H a1 = some (.lst (natsV (serL x m)))) (hf : H f = some (.lst (natsV ((List.range (k + 1)).map (ser (.arbno x)))))) (hne : a1 ≠ f)
    (q : ∀ H', Exc [f] H H' → H' f = some (.lst (natsV ((List.range (k + 2)).map (ser (.arbno x))))) → K .next [n, .int m, kd, v3, .int ((k : Int) + 1), .ref a1, .ref f, v7, v8, v9, v10, v11] H') :
    B_law_series_1 (CN d) [n, .int m, kd, v3, .int ((k : Int) + 1), .ref a1, .ref f, v7, v8, v9, v10, v11] H K := by
  simp only [B_law_series_1, pComp, pCompR, rgQ, sCons, sExp, pVal, pLoc, pOp2, pCons, pBlt, pLm, isLst, bAr, optQ_some, op2V, op2K, isLstI_lst, lmK, List.getElem?_cons_succ, List.getElem?_cons_zero, hf]
  refine ⟨by simp [frB], by simp [rangeOk]; omega, ?_⟩
  rw [show (k : Int) + 1 = ((k + 1 : Nat) : Int) by omega, rangeV_one]
  refine loop_ext (H0 := H) (fun v => match v with | .int i => .int ((ser x i.toNat * ser (.arbno x) (k + 1 - i.toNat) : Nat) : Int) | v => v) _ _ _ (by simp [natsV]; omega) (Ext.refl H) (fun v hv H4 Kt4 X4 q4 => ?_) fun H4 X4 => ?_
  · obtain ⟨p0, hp0, rfl⟩ := List.mem_map.mp hv
    obtain ⟨p, hp, rfl⟩ := List.mem_map.mp hp0
    have hp := List.mem_range.mp hp
    have g1 : H4 a1 = _ := (X4 a1 (by rw [h1]; nofun)).trans h1
    have g2 : H4 f = _ := (X4 f (by rw [hf]; nofun)).trans hf
    simp only [tgName, cEnv, pLoc, pOp2, bIdx, op2V, op2K, List.getElem?_cons_succ, List.getElem?_cons_zero, List.set_cons_succ, List.set_cons_zero, List.map_cons, List.map_nil, List.getD_cons_succ, List.getD_cons_zero, g1]
    rw [if_pos ⟨by omega, by rw [serL_len]; omega⟩, Int.toNat_natCast, serL_get (by omega)]
    simp only [bAr, pLoc, pOp2, bAr, bIdx, optQ_some, op2V, op2K, List.getElem?_cons_succ, List.getElem?_cons_zero, g2]
    have e2 : (natsV ((List.range (k + 1)).map (ser (.arbno x))))[k - p]? = some (.int (ser (.arbno x) (k - p) : Nat)) := by
      unfold natsV
      rw [List.map_map, List.getElem?_map, List.getElem?_range (by omega)]
      rfl
    rw [if_pos ⟨by omega, by simp [natsV]; omega⟩, show (((k + 1 : Nat) : Int) - ((p + 1 : Nat) : Int)).toNat = k - p by omega, e2]
    have hsm : small ((ser x (p + 1) : Nat) : Int) = true := small_nat (hs (p + 1) (by omega))
    have e1 := @bAr_mul ((ser x (p + 1) : Nat) : Int) ((ser (.arbno x) (k - p) : Nat) : Int) H4 hsm
    generalize hB : bAr .Mult = B at e1 ⊢
    refine e_op2V e1 ?_
    clear e1 hB
    have := q4 H4 X4
    simpa using this
  · intro a ha
    have hfa : f ≠ a := ne_of ((X4 f (by rw [hf]; nofun)).trans hf) ha
    have g2 : H4 f = _ := (X4 f (by rw [hf]; nofun)).trans hf
    simp only [bSum, sNil, pNil, onLst, bAppend, consV, consK, bltK, lmK2, seqK, expK, List.nil_append, Hp.set_self, List.nil_append]
    have e : (natsV ((List.range (k + 1)).map (· + 1))).map (fun v => match v with | .int i => V.int ((ser x i.toNat * ser (.arbno x) (k + 1 - i.toNat) : Nat) : Int) | v => v) = natsV ((List.range (k + 1)).map fun g => ser x (g + 1) * ser (.arbno x) (k - g)) := by
      unfold natsV
      rw [List.map_map, List.map_map, List.map_map]
      refine List.map_congr_left fun i _ => ?_
      show V.int _ = V.int _
      rw [Int.toNat_natCast, show k + 1 - (i + 1) = k - i by omega]
    rw [e, intsOf_nats]
    dsimp only
    rw [sum_nats]
    simp only [Hp.set_ne _ _ hfa, g2, onLstI_lst]
    refine ⟨by simp [natsV]; omega, ?_⟩
    rw [show ((k + 1 : Nat) : Int) = (k : Int) + 1 by omega]
    refine q _ (((X4.exc).set (.inr (X4.none ha)) _).set (.inl (by simp)) _) ?_
    rw [Hp.set_self, List.range_succ (n := k + 1)]
    unfold natsV
    rw [List.map_append, List.map_append]
    congr 3
    show [V.int _] = [V.int _]
    rw [show ser (.arbno x) (k + 1) = arbF (ser x) (k + 1) (k + 1) from rfl, arb_step]
    rfl
theorem arb_loop {x : Nd} {a1 f : Nat} {n kd v3 v7 v8 v9 v10 v11 : V} {Qm : QS} (hm : m ≤ 100) (hs : ∀ p, p ≤ m → ser x p < 1000000000) (hne : a1 ≠ f) : ∀ (j k : Nat) (v4 : V) (H : Hp), k + j = m →
    H a1 = some (.lst (natsV (serL x m))) → H f = some (.lst (natsV ((List.range (k + 1)).map (ser (.arbno x))))) →
    (∀ H' v, Exc [f] H H' → H' f = some (.lst (natsV (serL (.arbno x) m))) → Qm .next [n, .int m, kd, v3, v, .ref a1, .ref f, v7, v8, v9, v10, v11] H') →
    forR 4 B_law_series_1 j ((k : Int) + 1) (CN d) [n, .int m, kd, v3, v4, .ref a1, .ref f, v7, v8, v9, v10, v11] H Qm
  | 0, k, v4, H, hk, h1, hf, q => by
    obtain rfl : k = m := by omega
    exact q H v4 (Exc.refl _ _) hf
  | j + 1, k, v4, H, hk, h1, hf, q => by
    refine forR_cons fun K k1 _ _ => ?_
    refine arb_turn (by omega) hm hs h1 hf hne fun H' X hf' => ?_
    rw [k1, show (k : Int) + 1 + 1 = ((k + 1 : Nat) : Int) + 1 by omega]
    refine arb_loop hm hs hne j (k + 1) _ H' (by omega) (X.keep h1 (by simpa using hne)) hf' fun H2 v X2 h2 => q H2 v (X.trans X2) h2
theorem ser_arbno {x : Nd} {D : Nat} (hx : Ser r m D x) (hm : m ≤ 100) (hs : ∀ p, p ≤ m → ser x p < 1000000000) : Ser r m (D + 1) (.arbno x) := by
  intro d H Q hd q
  obtain ⟨d, rfl⟩ : ∃ d', d = d' + 1 := ⟨d - 1, by omega⟩
  refine callF (P := P_law_series) rfl rfl rfl ?_
  simp only [P_law_series, P_law_series_0, P_law_series_1, P_law_series_2, P_law_series_3, Nd.v, sCons, sNil, sAsg, sIf, pVal, pLoc, pOp2, pTup, pNil, pCons, pCall, tCmp, tOr, bIn, bEq, bIdx, retV, atMost, optQ_some, op2V, op2K, cmpV, cmpK, orK, consV, consK, tupK, callK, seqK, ifK, asgK, strsOf, List.getElem?_cons_succ, List.getElem?_cons_zero, List.set_cons_succ, List.set_cons_zero, List.replicate_succ, List.replicate_zero, List.cons_append, List.nil_append, List.length_cons, List.length_nil, nb2, nb3, nb4, Nat.reduceBEq, Nat.reduceAdd, Nat.reduceLeDiff, Int.reduceLE, Int.reduceToNat, Int.le_refl, Bool.and_true, Bool.and_false, List.contains_cons, List.contains_nil, Bool.or_false, and_true, Option.map_some, reduceIte]
  refine hx d H _ (by omega) fun a1 H1 n1 h1 X1 => ?_
  simp only [P_law_series_4, sForR, rgQ, sCons, sAsg, sIf, pVal, pLoc, pOp2, pList, pNil, pCons, tCmp, bEq, bAr, atMost, optQ_some, op2V, op2K, cmpV, cmpK, consV, consK, listK, seqK, ifK, asgK, List.getElem?_cons_succ, List.getElem?_cons_zero, List.set_cons_succ, List.set_cons_zero, nb3, nb4, Nat.reduceBEq, Bool.and_true]
  intro f hf
  have hne : a1 ≠ f := ne_of h1 hf
  refine ⟨by simp [rangeOk]; omega, ?_⟩
  rw [show ((m : Int) + 1 - 1).toNat = m by omega]
  refine arb_loop hm hs hne m 0 _ _ (by omega) (by rw [Hp.set_ne _ _ hne]; exact h1) (by rw [Hp.set_self]; rfl) fun H2 v X2 h2 => ?_
  simp only [sCons, sRet, pLoc, seqK, retK, List.getElem?_cons_succ, List.getElem?_cons_zero]
  exact q f H2 (X1.none hf) h2 fun b hb => by
    have hb1 : H1 b ≠ none := by rw [X1 b hb]; exact hb
    have hbf : b ≠ f := fun e => hb1 (e ▸ hf)
    rw [X2 b (by rw [Hp.set_ne _ _ hbf]; exact hb1) (by simpa using hbf), Hp.set_ne _ _ hbf, X1 b hb]
end

theorem sumTo_le {f : Nat → Nat} {B : Nat} : ∀ {k : Nat}, (∀ p, p ≤ k → f p ≤ B) → sumTo f k ≤ (k + 1) * B
  | 0, h => by have := h 0 (Nat.le_refl _); simp [sumTo]; exact this
  | k + 1, h => by
    have h1 := sumTo_le (k := k) fun p hp => h p (by omega)
    have h2 := h (k + 1) (Nat.le_refl _)
    rw [sumTo_succ, Nat.succ_mul]
    omega
theorem arbF_le {f : Nat → Nat} {c : Nat} (hc : 1 ≤ c) (hf : ∀ k, k ≤ 6 → f k ≤ c) : ∀ (t k : Nat), k ≤ 6 → arbF f t k ≤ (6 * c) ^ k
  | t, 0, _ => by induction t using Nat.casesOn <;> simp [arbF]
  | 0, k + 1, _ => by simp [arbF]
  | t + 1, k + 1, h => by
    show sumTo _ k ≤ _
    have h1 : sumTo (fun g => f (g + 1) * arbF f t (k - g)) k ≤ (k + 1) * (c * (6 * c) ^ k) := sumTo_le fun p hp => by
      refine Nat.mul_le_mul (hf (p + 1) (by omega)) (Nat.le_trans (arbF_le hc hf t (k - p) (by omega)) ?_)
      exact Nat.pow_le_pow_right (by omega) (by omega)
    have h2 : (k + 1) * (c * (6 * c) ^ k) ≤ 6 * (c * (6 * c) ^ k) := Nat.mul_le_mul_right _ (by omega)
    have h3 : (6 * c) ^ (k + 1) = 6 * (c * (6 * c) ^ k) := by rw [Nat.pow_succ, Nat.mul_comm, Nat.mul_assoc]
    omega
theorem el_le {n : Nd} (h : El n) (k : Nat) : ser n k ≤ 1 := by
  induction h using El.casesOn <;> (show (if _ then 1 else 0) ≤ 1; split <;> omega)
theorem si_le {n : Nd} (h : Si n) (k : Nat) : ser n k ≤ 1 := by
  induction h using Si.casesOn with
  | el h => exact el_le h k
  | ways b => show (if _ then 1 else 0) ≤ 1; split <;> omega
theorem cat_le {x y : Nd} {k : Nat} (hx : ∀ k, ser x k ≤ 1) (hy : ∀ k, ser y k ≤ 1) : ser (.cat x y) k ≤ k + 1 := by
  have : sumTo (fun p => ser x p * ser y (k - p)) k ≤ (k + 1) * 1 := sumTo_le fun p hp => by
    have := Nat.mul_le_mul (hx p) (hy (k - p)); simpa using this
  show sumTo _ k ≤ _
  omega
theorem pa_le {n : Nd} (h : Pa n) {k : Nat} (hk : k ≤ 5) : ser n k < 1000000000 := by
  induction h using Pa.casesOn with
  | si h => have := si_le h k; omega
  | cat h h' => have := cat_le (k := k) (si_le h) (si_le h'); omega
  | alt h h' => have := si_le h k; have := si_le h' k; show _ + _ < _; omega
  | arb h =>
    have h1 := arbF_le (c := 1) (Nat.le_refl _) (fun k _ => el_le h k) k k (by omega)
    have h2 : (6 * 1) ^ k ≤ (6 * 1) ^ 5 := Nat.pow_le_pow_right (by omega) hk
    have h3 : (6 * 1) ^ 5 = 7776 := by decide
    show arbF _ k k < _
    omega
  | @arbc x y h h' =>
    have h1 := arbF_le (f := ser (.cat x y)) (c := 7) (by omega) (fun k hk => Nat.le_trans (cat_le (k := k) (el_le h) (el_le h')) (by omega)) k k (by omega)
    have h2 : (6 * 7) ^ k ≤ (6 * 7) ^ 5 := Nat.pow_le_pow_right (by omega) hk
    have h3 : (6 * 7) ^ 5 = 130691232 := by decide
    show arbF _ k k < _
    omega
section
variable {r m : Nat}
theorem Ser.mono {D D' : Nat} {n : Nd} (h : Ser r m D n) (hd : D ≤ D') : Ser r m D' n := fun d H Q hD q => h d H Q (by omega) q
theorem ser_el {n : Nd} (h : El n) (hm : m ≤ 100) : Ser r m 1 n := by
  induction h using El.casesOn with
  | chars k hk => exact ser_sg (.inl ⟨k, by omega, rfl⟩) hm
  | len k _ => exact ser_sg (.inr (.inl ⟨k, rfl⟩)) hm
  | any => exact ser_sg (.inr (.inr rfl)) hm
theorem ser_si {n : Nd} (h : Si n) (hm : m ≤ 100) : Ser r m 1 n := by
  induction h using Si.casesOn with
  | el h => exact ser_el h hm
  | ways b => exact ser_ways b hm
theorem ser_pa {n : Nd} (h : Pa n) (hm : m ≤ 5) : Ser r m 3 n := by
  induction h using Pa.casesOn with
  | si h => exact (ser_si h (by omega)).mono (by omega)
  | cat h h' => exact (ser_cat (ser_si h (by omega)) (ser_si h' (by omega)) (by omega) fun p _ => by have := si_le h p; omega).mono (by omega)
  | alt h h' => exact (ser_alt (ser_si h (by omega)) (ser_si h' (by omega)) (by omega)).mono (by omega)
  | arb h => exact (ser_arbno (ser_el h (by omega)) (by omega) fun p _ => by have := el_le h p; omega).mono (by omega)
  | arbc h h' => exact (ser_arbno (ser_cat (ser_el h (by omega)) (ser_el h' (by omega)) (by omega) fun p _ => by have := el_le h p; omega) (by omega) fun p hp => by have := cat_le (k := p) (el_le h) (el_le h'); omega)
theorem ser_wh {n : Nd} (h : Wh n) (hm : m ≤ 5) : Ser r m 4 n := by
  induction h using Wh.casesOn with
  | cat h h' => exact ser_cat (ser_pa h hm) (ser_pa h' hm) (by omega) fun p hp => pa_le h (by omega)
  | alt h h' => exact ser_alt (ser_pa h hm) (ser_pa h' hm) (by omega)
end

theorem v_pl : ∀ (n : Nd), n.pl = true → ∀ r r' : Nat, n.v r = n.v r'
  | .sg g, _, r, r' => rfl
  | .ways b, _, r, r' => rfl
  | .cat x y, h, r, r' => by
    simp only [Nd.pl, Bool.and_eq_true] at h
    simp only [Nd.v, v_pl x h.1 r r', v_pl y h.2 r r']
  | .alt x y, h, r, r' => by
    simp only [Nd.pl, Bool.and_eq_true] at h
    simp only [Nd.v, v_pl x h.1 r r', v_pl y h.2 r r']
  | .arbno x, h, r, r' => by simp only [Nd.v, v_pl x h r r']
  | .fail, _, r, r' => rfl
theorem count_nats (l : List Nat) (k : Nat) : (l.map fun e => ((e : Nat) : Int)).count ((k : Nat) : Int) = l.count k := by
  induction l with
  | nil => rfl
  | cons e l ih =>
    rw [List.map_cons, List.count_cons, List.count_cons, ih]
    congr 1
    by_cases h : e = k
    · rw [if_pos (by simp [h]), if_pos (by simp [h])]
    · rw [if_neg (by simp; omega), if_neg (by simp [h])]
section
variable {H : Hp} {d : Nat} {Q : QV} {r m : Nat}
theorem cnt_host {ρ : List V} {K : QS} (q : ∀ h dv rf lg H', Ext H H' → H' h = some (hostO dv rf lg 0) → H' dv = some (.dic 0) → H' rf = some (.lst []) → H' lg = some (.lst []) → lg ≠ rf → H h = none → H dv = none → H lg = none → K .next (ρ.set 2 (.ref h)) H') :
    P_law_counted_0 (CN (d + 8)) ρ H K := by
  simp only [P_law_counted_0, pDict0, sAsg, pVal, pList, pNil, pCons, pCall, atMost, consV, consK, listK, callK]
  intro dv hdv rf hrf
  obtain ⟨g1, g2⟩ := none_set hrf
  refine callI (fI := 565) (P := P_PlainHost_init) rfl rfl rfl fun h hh => ?_
  obtain ⟨g3, g4⟩ := none_set hh
  obtain ⟨g5, g6⟩ := none_set g4
  simp only [P_PlainHost_init, sCons, sPut, pVal, pLoc, pList, pNil, putQ, retV, putF, atMost, listK, putI_ins, seqK, asgK, nextK, putK2, putK, List.getElem?_cons_succ, List.getElem?_cons_zero, List.replicate_zero, List.cons_append, List.nil_append, Nat.reduceBEq, Hp.set_self, Hp.set_set, at_589_9, at_589_10, at_589_11, at_589_12, at_589_13]
  intro lg hlg
  obtain ⟨g7, g8⟩ := none_set hlg
  obtain ⟨g9, g10⟩ := none_set g8
  obtain ⟨g11, g12⟩ := none_set g10
  simp only [sNil, putF, atMost, putI_ins, seqK, nextK, Nat.reduceBEq, true_and, Hp.set_self, at_589_14, Hp.set_ne _ _ g7.symm]
  refine q h dv rf lg _ ((((((Ext.refl H).set hdv _).set g2 _).set g6 _).set g12 _).set g6 _) (Hp.set_self _ _ _) ?_ ?_ ?_ g9 g6 hdv g12
  · rw [Hp.set_ne _ _ g5.symm, Hp.set_ne _ _ g11.symm, Hp.set_ne _ _ g5.symm, Hp.set_ne _ _ g1.symm, Hp.set_self]
  · rw [Hp.set_ne _ _ g3.symm, Hp.set_ne _ _ g9.symm, Hp.set_ne _ _ g3.symm, Hp.set_self]
  · rw [Hp.set_ne _ _ g7, Hp.set_self]
theorem cnt_match {n : Nd} {K : QS} {h dv rf lg : Nat} {x3 x4 x5 x6 x7 : V} (hp : n.pl = true) (hw : n.w ≤ 200) (hm : m ≤ 20) (hc : 1 + costN (ones m) n 0 + 2 * (endsN (ones m) n 0).length ≤ 97000)
    (h1 : H h = some (hostO dv rf lg 0)) (h2 : H dv = some (.dic 0)) (h3 : H rf = some (.lst [])) (h4 : H lg = some (.lst [])) (n1 : lg ≠ rf)
    (q : ∀ st H', H' h = some (hostO dv rf lg st) → H' lg = some (.lst (((endsN (ones m) n 0).map fun e => (ones m).take e).map entV)) → (∀ b, H b ≠ none → b ≠ h → b ≠ dv → b ≠ lg → H' b = H b) → K .next [n.v r, .int m, .ref h, x3, x4, x5, x6, x7] H') :
    P_law_counted_1 (CN (d + 8)) [n.v r, .int m, .ref h, x3, x4, x5, x6, x7] H K := by
  simp only [P_law_counted_1, sIf, pVal, pLoc, pTup, pNil, pCons, pCall, tCmp, consV, consK, callK, List.getElem?_cons_zero, lq_nd]
  refine callI (fI := 205) (P := P_NameRef_init) rfl rfl rfl fun nr hr => ?_
  simp only [P_NameRef_init, sCons, sNil, sPut, pVal, pLoc, pOp2, pTup, pNil, pCons, putQ, retV, putF, atMost, op2V, op2K, consV, consK, tupK, putI_ins, seqK, nextK, putK2, putK, List.getElem?_cons_succ, List.getElem?_cons_zero, List.replicate_zero, List.cons_append, List.nil_append, Nat.reduceBEq, true_and, Hp.set_self, Hp.set_set, at_208_15, at_208_16, at_208_17]
  have e1 : bMulS (.str [49]) (.int (m : Nat)) (H.set nr (.ins 208 [(15, .str [118, 97, 114]), (16, .none), (17, .str [86])])) = some (.str (ones m)) := by
    show (if _ then some (V.str _) else none) = _
    rw [if_pos ⟨by omega, by omega, by simp⟩, Int.toNat_natCast, ones_flat]
    rfl
  refine e_op2V e1 ?_
  clear e1
  simp only [pVal, pLoc, pNil, pCons, consV, consK, callK, List.getElem?_cons_succ, List.getElem?_cons_zero]
  have X : Ext H (H.set nr (.ins 208 [(15, .str [118, 97, 114]), (16, .none), (17, .str [86])])) := (Ext.refl H).set hr _
  have hr1 : (H.set nr (.ins 208 [(15, .str [118, 97, 114]), (16, .none), (17, .str [86])])) nr = _ := Hp.set_self _ _ _
  generalize H.set nr (.ins 208 [(15, .str [118, 97, 114]), (16, .none), (17, .str [86])]) = H1 at X hr1 ⊢
  have ev : (V.tup [.str [99, 97, 116], .tup [.str [110, 111, 119], n.v r, .ref nr], .tup [.str [102, 97, 105, 108]]]) = (whole n).v nr := by
    rw [v_pl n hp r nr]; rfl
  rw [ev]
  refine c_whole (d := d) hw hp (by rw [ones_len]; omega) hc ((X h (by rw [h1]; nofun)).trans h1) ((X dv (by rw [h2]; nofun)).trans h2) ((X rf (by rw [h3]; nofun)).trans h3) ((X lg (by rw [h4]; nofun)).trans h4) ⟨_, _, hr1⟩ n1 fun st H2 k1 k2 k3 => ?_
  simp only [sNil, pVal, bIs, optQ_some, cmpV, cmpK, ifK]
  exact q st H2 k1 k2 fun b hb b1 b2 b3 => (k3 b (by rw [X b hb]; exact hb) b1 b2 b3).trans (X b hb)
theorem cnt_longs {K : QS} {h dv rf lg st : Nat} {x0 x1 x3 x4 x5 x6 x7 : V} {L : List (List Nat)} (h1 : H h = some (hostO dv rf lg st)) (h2 : H lg = some (.lst (L.map entV))) (hL : L.length ≤ 90000) (hx : ∀ x ∈ L, x.length ≤ 1000)
    (q : ∀ tx, H tx = none → K .next [x0, x1, .ref h, .ref tx, x4, x5, x6, x7] (H.set tx (.lst (natsV (L.map List.length))))) :
    P_law_counted_2 (CN (d + 8)) [x0, x1, .ref h, x3, x4, x5, x6, x7] H K := by
  dsimp only [hostO] at h1
  simp only [P_law_counted_2, pComp, pCompL, sAsg, pLoc, pAttr, attrQ, getF, attrI_ins, attrK, onList, List.getElem?_cons_succ, List.getElem?_cons_zero, Nat.reduceBEq, h1, h2, at_589_14]
  refine ⟨by simp [frB], by simp; omega, ?_⟩
  refine loop_map (f := fun v => match v with | .tup [_, .str t] => .int (t.length : Nat) | v => v) (p := fun _ => true) h2 _ _ (by simp; omega) ?_ ?_
  · intro v hv Kt Kf k1 k2
    obtain ⟨x, hx', rfl⟩ := List.mem_map.mp hv
    simp only [tgTwo, entV, cEnv, tTrue, pLoc, pNil, pCons, pBlt, bLen, lenV, two, consV, consK, bltK, List.getElem?_cons_succ, List.getElem?_cons_zero, List.set_cons_succ, List.set_cons_zero, List.map_cons, List.map_nil]
    have := hx x hx'
    exact ⟨by omega, k1 rfl⟩
  · rw [List.filter_eq_self.mpr (by simp), List.nil_append, List.map_map]
    intro tx htx
    have e : (L.map ((fun v => match v with | .tup [_, .str t] => V.int (t.length : Nat) | v => v) ∘ entV)) = natsV (L.map List.length) := by
      unfold natsV
      rw [List.map_map]
      rfl
    rw [e]
    exact q tx htx
theorem cnt_list {K : QS} {tx : Nat} {x0 x2 x4 x5 x6 x7 : V} {L : List Nat} (hm : m ≤ 100) (h1 : H tx = some (.lst (natsV L))) (hL : L.length ≤ 90000)
    (q : ∀ a H', Ext H H' → H a = none → H' a = some (.lst (natsV ((List.range (m + 1)).map fun k => L.count k))) → K (.ret (.ref a)) [x0, .int m, x2, .ref tx, x4, x5, x6, x7] H') :
    P_law_counted_3 (CN (d + 8)) [x0, .int m, x2, .ref tx, x4, x5, x6, x7] H K := by
  simp only [P_law_counted_3, pComp, pCompR, rgQ, sRet, pVal, pLoc, pOp2, bAr, optQ_some, op2V, op2K, List.getElem?_cons_succ, List.getElem?_cons_zero]
  refine ⟨by simp [frB], by simp [rangeOk]; omega, ?_⟩
  rw [rangeV_nats]
  refine loop_ext (H0 := H) (fun v => match v with | .int i => .int ((L.count i.toNat : Nat) : Int) | v => v) _ _ _ (by simp [natsV]; omega) (Ext.refl H) (fun v hv H1 Kt X q1 => ?_) fun H1 X => ?_
  · obtain ⟨i, hi, rfl⟩ := List.mem_map.mp hv
    have g1 : H1 tx = _ := (X tx (by rw [h1]; nofun)).trans h1
    simp only [tgName, cEnv, bCount, pLoc, pNil, pCons, pLm, isLst, consV, consK, isLstI_lst, lmK2, lmK, List.getElem?_cons_succ, List.getElem?_cons_zero, List.set_cons_succ, List.set_cons_zero, List.map_cons, List.map_nil, List.getD_cons_succ, List.getD_cons_zero, g1]
    rw [intsOf_nats]
    dsimp only
    rw [count_nats]
    have := q1 H1 X
    simpa using this
  · intro a ha
    refine q a _ (X.set (X.none ha) _) (X.none ha) ?_
    rw [Hp.set_self, List.nil_append]
    unfold natsV
    rw [List.map_map, List.map_map]
    congr 2
theorem ones_take {m e : Nat} (h : e ≤ m) : ((ones m).take e).length = e := by rw [List.length_take, ones_len]; omega
theorem c_counted {n : Nd} (hp : n.pl = true) (hw : n.w ≤ 200) (hl : Pl n) (hm : m ≤ 20) (hc : 1 + costN (ones m) n 0 + 2 * (endsN (ones m) n 0).length ≤ 97000)
    (q : ∀ a H', H a = none → H' a = some (.lst (natsV (serL n m))) → Ext H H' → Q (.ref a) H') : CN (d + 9) 624 [n.v r, .int m] H Q := by
  refine callF (P := P_law_counted) rfl rfl rfl ?_
  generalize hQ : (fun (fl : MF) (_ : List V) (H : Hp) => Q (retV fl) H) = Qr
  have hret : ∀ v ρ H, Q v H → Qr (.ret v) ρ H := fun v ρ H h => by rw [← hQ]; exact h
  clear hQ
  unfold P_law_counted
  rw [w_seq]
  refine cnt_host fun h dv rf lg H1 X1 h1 h2 h3 h4 n1 g1 g2 g3 => ?_
  try dsimp only
  rw [w_seq]
  refine cnt_match (r := r) hp hw hm hc h1 h2 h3 h4 n1 fun st H2 k1 k2 k3 => ?_
  have X2 : Ext H H2 := fun b hb => by
    rw [k3 b (by rw [X1 b hb]; exact hb) (fun e => hb (e ▸ g1)) (fun e => hb (e ▸ g2)) (fun e => hb (e ▸ g3)), X1 b hb]
  try dsimp only
  rw [w_seq]
  have bd := fun e he => endsN_ge (i := 0) (e := e) hl (Nat.zero_le m) he
  refine cnt_longs k1 k2 (by simp; omega) (fun x hx => ?_) fun tx htx => ?_
  · obtain ⟨e, he, rfl⟩ := List.mem_map.mp hx
    have := bd e he
    rw [ones_take this.2]
    omega
  try dsimp only
  have eL : (((endsN (ones m) n 0).map fun e => (ones m).take e).map List.length) = endsN (ones m) n 0 := by
    rw [List.map_map]
    conv => rhs; rw [← List.map_id (endsN (ones m) n 0)]
    exact List.map_congr_left fun e he => ones_take (bd e he).2
  rw [eL]
  rw [w_seq]
  refine cnt_list (by omega) (Hp.set_self _ _ _) (by omega) fun a H3 X3 ha h3' => ?_
  have X23 : Ext H (H2.set tx (.lst (natsV (endsN (ones m) n 0)))) := X2.set (X2.none htx) _
  refine hret _ _ _ (q a H3 (X23.none ha) ?_ (X23.trans X3))
  rw [h3']
  unfold serL
  congr 3
  refine List.map_congr_left fun k hk => ?_
  have := List.mem_range.mp hk
  rw [endsN_count hl 0 k (Nat.zero_le _) (by omega), Nat.sub_zero]
end

section
variable {H : Hp} {d : Nat} {Qm : QS}
noncomputable abbrev tail5 : List V := [.un, .un, .un, .un, .un]
theorem map_abs (xs : List Int) : ∃ ys : List Int, (xs.map V.int).map (fun v => match v with | .int i => V.int (if i < 0 then -i else i) | v => v) = ys.map V.int ∧ (∀ y ∈ ys, 0 ≤ y) ∧ ys.length = xs.length :=
  ⟨xs.map fun i => if i < 0 then -i else i, by simp, fun y hy => by
    obtain ⟨i, _, rfl⟩ := List.mem_map.mp hy
    split <;> omega, by simp⟩
theorem law_cells {u : Nat} {xs us : List Int} {x2 x3 x4 x5 x6 x7 x8 x9 : V} (hu : H u = some (.lst (us.map .int))) (hx : xs.length ≤ 63) (hus : us.length ≤ 63) (hup : ∀ i ∈ us, 0 ≤ i)
    (q : ∀ c H', Cells c H' → H c = none → Ext H H' → Qm .next ([.rol (xs.map .int), .ref u, x2, .ref c, x4, x5, x6, x7, x8, x9] ++ tail5) H') : P_law_1 (CN (d + 9)) ([.rol (xs.map .int), .ref u, x2, x3, x4, x5, x6, x7, x8, x9] ++ tail5) H Qm := by
  simp only [P_law_1, pComp, pCompL, pAddL, addLQ, sAsg, pVal, pLoc, pNil, pCons, pSl, slQ, pBlt, bLen, lenV, partOf, slL, consV, consK, slK4, slK3, slK2, slK1, bltK, lenI_lst, asgK, onList, List.getElem?_cons_succ, List.getElem?_cons_zero, List.set_cons_succ, List.set_cons_zero, List.cons_append, List.nil_append, Int.reduceLE, Int.reduceToNat, Hp.set_self, reduceIte]
  refine ⟨by simp [frB], by simp; omega, fun a ha => ?_⟩
  have nua : u ≠ a := ne_of hu ha
  refine ⟨by simp; omega, ?_⟩
  obtain ⟨ys, e1, e2, e3⟩ := map_abs (xs.take 15)
  have hl : (xs.take 15).length ≤ 15 := by simp; omega
  refine loop_map (f := fun v => match v with | .int i => V.int (if i < 0 then -i else i) | v => v) (p := fun _ => true) (Hp.set_self _ _ _) _ _ (by simp; omega) ?_ ?_
  · intro v hv Kt Kf k1 k2
    rw [← List.map_take] at hv
    obtain ⟨i, hi, rfl⟩ := List.mem_map.mp hv
    simp only [tgName, cEnv, tTrue, bAbs, bInt, pLoc, pNil, pCons, pBlt, consV, consK, bltK, List.getElem?_cons_succ, List.getElem?_cons_zero, List.set_cons_succ, List.set_cons_zero, List.map_cons, List.map_nil]
    exact k1 rfl
  · rw [List.filter_eq_self.mpr (by simp), ← List.map_take, e1, List.nil_append]
    intro b hb
    obtain ⟨g1, g2⟩ := none_set hb
    have nub : u ≠ b := ne_of hu g2
    refine ⟨by simp; omega, fun a3 ha3 => ?_⟩
    obtain ⟨g3, g4⟩ := none_set ha3
    obtain ⟨g5, g6⟩ := none_set g4
    have nua3 : u ≠ a3 := ne_of hu g6
    simp only [Hp.set_ne _ _ nua, Hp.set_ne _ _ nub, Hp.set_ne _ _ nua3, hu, Hp.set_self]
    refine ⟨by simp; omega, ?_⟩
    rw [if_pos (by omega)]
    refine ⟨by simp; omega, fun a4 ha4 => ?_⟩
    obtain ⟨g7, g8⟩ := none_set ha4
    obtain ⟨g9, g10⟩ := none_set g8
    obtain ⟨g11, g12⟩ := none_set g10
    simp only [Hp.set_ne _ _ g9.symm, Hp.set_ne _ _ g3.symm, Hp.set_self]
    refine ⟨by simp; omega, fun c hc => ?_⟩
    obtain ⟨k1, k2⟩ := none_set hc
    obtain ⟨k3, k4⟩ := none_set k2
    obtain ⟨k5, k6⟩ := none_set k4
    obtain ⟨k7, k8⟩ := none_set k6
    refine q c _ ⟨ys ++ us.drop (xs.take 15).length, ?_, fun i hi => ?_, by simp; omega⟩ k8 ((((((Ext.refl H).set ha _).set g2 _).set g6 _).set g12 _).set k8 _)
    · rw [Hp.set_self]; simp
    · rcases List.mem_append.mp hi with hi | hi
      · exact e2 i hi
      · exact hup i (List.mem_of_mem_drop hi)
theorem law_pair {u c : Nat} {sc x2 x4 x5 x6 x7 x8 x9 : V} (hc : Cells c H)
    (q : ∀ (a b : Nat) H', (a, b) ∈ pairs2 → Cells c H' → Exc [c] H H' → Qm .next ([sc, .ref u, .int a, .ref c, .int b, x5, x6, x7, x8, x9] ++ tail5) H') : P_law_2 (CN (d + 9)) ([sc, .ref u, x2, .ref c, x4, x5, x6, x7, x8, x9] ++ tail5) H Qm := by
  simp only [P_law_2, sTwo, pVal, pLoc, pOp2, pTup, pList, pNil, pCons, pCall, atMost, op2K, consV, consK, tupK, listK, callK, List.getElem?_cons_succ, List.getElem?_cons_zero, List.cons_append, List.nil_append]
  intro a ha
  refine c_pick (by omega) (hc.fresh ha _) fun k H1 hk0 hk h1 x1 => ?_
  have ha2 := x1.keep (Hp.set_self _ _ _) (hc.ne ha)
  have X1 := ((Exc.refl [c] H).set (.inr ha) (.lst [.tup [.int 2, .int 3], .tup [.int 3, .int 4], .tup [.int 2, .int 5], .tup [.int 3, .int 5], .tup [.int 2, .int 7]])).trans x1
  obtain rfl | rfl | rfl | rfl | rfl : k = 0 ∨ k = 1 ∨ k = 2 ∨ k = 3 ∨ k = 4 := by omega
  · simp only [ha2, bIdx, two, optQ_some, op2V, twoK2, twoK, List.getElem?_cons_zero, List.set_cons_succ, List.set_cons_zero, List.length_cons, List.length_nil, Nat.reduceAdd, Nat.reduceLeDiff, Int.reduceToNat, Int.le_refl, and_true, reduceIte]; exact q 2 3 H1 (by decide) h1 X1
  · simp only [ha2, bIdx, two, optQ_some, op2V, twoK2, twoK, List.getElem?_cons_succ, List.getElem?_cons_zero, List.set_cons_succ, List.set_cons_zero, List.length_cons, List.length_nil, Nat.reduceAdd, Nat.reduceLeDiff, Int.reduceLE, Int.reduceToNat, and_true, reduceIte]; exact q 3 4 H1 (by decide) h1 X1
  · simp only [ha2, bIdx, two, optQ_some, op2V, twoK2, twoK, List.getElem?_cons_succ, List.getElem?_cons_zero, List.set_cons_succ, List.set_cons_zero, List.length_cons, List.length_nil, Nat.reduceAdd, Nat.reduceLeDiff, Int.reduceLE, Int.reduceToNat, and_true, reduceIte]; exact q 2 5 H1 (by decide) h1 X1
  · simp only [ha2, bIdx, two, optQ_some, op2V, twoK2, twoK, List.getElem?_cons_succ, List.getElem?_cons_zero, List.set_cons_succ, List.set_cons_zero, List.length_cons, List.length_nil, Nat.reduceAdd, Nat.reduceLeDiff, Int.reduceLE, Int.reduceToNat, and_true, reduceIte]; exact q 3 5 H1 (by decide) h1 X1
  · simp only [ha2, bIdx, two, optQ_some, op2V, twoK2, twoK, List.getElem?_cons_succ, List.getElem?_cons_zero, List.set_cons_succ, List.set_cons_zero, List.length_cons, List.length_nil, Nat.reduceAdd, Nat.reduceLeDiff, Int.reduceLE, Int.reduceToNat, and_true, reduceIte]; exact q 2 7 H1 (by decide) h1 X1
theorem e_op2 {B : V → V → Hp → Option V} {x y v : V} {Q : QV} (h : B x y H = some v) (q : Q v H) : op2V B x Q y H := by
  show optQ Q H (B x y H)
  rw [h]
  exact q
theorem bAr_sub {i j : Int} {H : Hp} : bAr .Sub (.int i) (.int j) H = some (.int (i - j)) := rfl
theorem pair_bd {a b : Nat} (h : (a, b) ∈ pairs2) : a ≤ 9 ∧ b ≤ 9 ∧ 1 ≤ a ∧ 1 ≤ b ∧ a + b ≤ a * b ∧ a * b ≤ 20 := by
  simp only [pairs2, List.mem_cons, Prod.mk.injEq, List.not_mem_nil, or_false] at h
  rcases h with ⟨rfl, rfl⟩ | ⟨rfl, rfl⟩ | ⟨rfl, rfl⟩ | ⟨rfl, rfl⟩ | ⟨rfl, rfl⟩ <;> decide
theorem law_last {a b : Nat} {x0 x1 x3 x5 x6 x7 x8 x9 : V} (h : (a, b) ∈ pairs2) (q : Qm .next ([x0, x1, .int a, x3, .int b, .int ((a * b - a - b : Nat) : Int), x6, x7, x8, x9] ++ tail5) H) :
    P_law_3 (CN (d + 9)) ([x0, x1, .int a, x3, .int b, x5, x6, x7, x8, x9] ++ tail5) H Qm := by
  have hb := pair_bd h
  have h1 := hb.1
  have h2 := hb.2.1
  have h5 := hb.2.2.2.2.1
  have h6 := hb.2.2.2.2.2
  clear hb
  have e1 := @bAr_mul (a : Nat) (b : Nat) H (small_nat (by omega))
  have e2 := @bAr_sub (((a : Nat) : Int) * (b : Nat)) (a : Nat) H
  have e3 := @bAr_sub (((a : Nat) : Int) * (b : Nat) - (a : Nat)) (b : Nat) H
  simp only [P_law_3, sAsg, pOp2, pLoc, op2K, List.cons_append, List.nil_append, List.getElem?_cons_succ, List.getElem?_cons_zero]
  generalize bAr .Mult = B at e1 ⊢
  generalize bAr .Sub = B2 at e2 e3 ⊢
  refine e_op2 e1 ?_
  refine e_op2 e2 ?_
  refine e_op2 e3 ?_
  have e4 : ((a : Nat) : Int) * (b : Nat) - (a : Nat) - (b : Nat) = ((a * b - a - b : Nat) : Int) := by
    rw [← Int.natCast_mul]
    omega
  rw [e4]
  simpa [asgK] using q
theorem law_found {a b : Nat} {x0 x1 x3 x6 x7 x8 x9 : V} (h : (a, b) ∈ pairs2) (q : ∀ f H', Ext H H' → H' f = some (.lst (natsV (serL (twoN a b) (a * b - b)))) → Qm .next ([x0, x1, .int a, x3, .int b, .int ((a * b - a - b : Nat) : Int), .ref f, x7, x8, x9] ++ tail5) H') :
    P_law_4 (CN (d + 9)) ([x0, x1, .int a, x3, .int b, .int ((a * b - a - b : Nat) : Int), x6, x7, x8, x9] ++ tail5) H Qm := by
  have hb := pair_bd h
  have h1 := hb.1
  have h2 := hb.2.1
  have h5 := hb.2.2.2.2.1
  have h6 := hb.2.2.2.2.2
  clear hb
  have hf := List.all_eq_true.mp two_facts _ h
  have hf := of_decide_eq_true hf
  simp only [P_law_4, sAsg, pVal, pLoc, pOp2, pTup, pNil, pCons, pCall, bAr, atMost, optQ_some, op2V, op2K, consV, consK, tupK, callK, List.getElem?_cons_succ, List.getElem?_cons_zero, List.cons_append, List.nil_append]
  rw [show ((a * b - a - b : Nat) : Int) + (a : Nat) = ((a * b - b : Nat) : Int) by omega]
  refine c_counted (n := twoN a b) (r := 0) (m := a * b - b) (d := d) rfl (by simp only [twoN, Nd.w, Sg.cl]; omega) (two_pl a b) (by omega) hf fun f H' hfn hf' X => ?_
  simp only [asgK, List.set_cons_succ, List.set_cons_zero]
  exact q f H' X hf'
end

section
variable {H : Hp} {d : Nat} {Qm : QS}
theorem e_op2K {B : V → V → Hp → Option V} {b : PT} {C : Cl} {ρ : List V} {Q : QV} {x : V} (q : b C ρ H (op2V B x Q)) : op2K B b C ρ Q x H := q
theorem e_pOp2 {B : V → V → Hp → Option V} {a b : PT} {C : Cl} {ρ : List V} {Q : QV} (q : a C ρ H (op2K B b C ρ Q)) : pOp2 B a b C ρ H Q := q
theorem e_loc {i : Nat} {v : V} {C : Cl} {ρ : List V} {Q : QV} (h : ρ[i]? = some v) (hn : v ≠ .un) (q : Q v H) : pLoc i C ρ H Q := by
  unfold pLoc
  rw [h]
  cases v <;> first | exact q | exact absurd rfl hn
theorem e_val {v : V} {C : Cl} {ρ : List V} {Q : QV} (q : Q v H) : pVal v C ρ H Q := q
theorem two_sub {a b : Nat} {ρ : List V} {Q : QV} (h2 : ρ[2]? = some (.int a)) (h4 : ρ[4]? = some (.int b)) (ha : 1 ≤ a) (ha' : a ≤ 9) (hb : 1 ≤ b) (q : Q (.int (((a - 1) * (b - 1) : Nat) : Int)) H) :
    pOp2 (bAr .Mult) (pOp2 (bAr .Sub) (pLoc 2) (pVal (.int 1))) (pOp2 (bAr .Sub) (pLoc 4) (pVal (.int 1))) (CN d) ρ H Q := by
  have e2 := @bAr_sub (a : Nat) 1 H
  have e3 := @bAr_sub (b : Nat) 1 H
  rw [show ((a : Nat) : Int) - 1 = ((a - 1 : Nat) : Int) by omega] at e2
  rw [show ((b : Nat) : Int) - 1 = ((b - 1 : Nat) : Int) by omega] at e3
  have e1 := @bAr_mul ((a - 1 : Nat) : Int) ((b - 1 : Nat) : Int) H (small_nat (by omega))
  generalize bAr .Mult = B at e1 ⊢
  generalize bAr .Sub = B2 at e2 e3 ⊢
  refine e_pOp2 (e_pOp2 (e_loc h2 nofun (e_op2K (e_val (e_op2 e2 (e_op2K (e_pOp2 (e_loc h4 nofun (e_op2K (e_val (e_op2 e3 (e_op2 e1 ?_))))))))))))
  rw [Int.natCast_mul] at q
  exact q
theorem e_lm1 {B : BL} {i a : Nat} {vs : List V} {v : V} {C : Cl} {ρ : List V} {Q : QV} (h : ρ[i]? = some (.ref a)) (hH : H a = some (.lst vs)) (q : B [.ref a, v] H Q) : pLm B (pLoc i) (pCons (pVal v) pNil) C ρ H Q := by
  refine e_loc h nofun ?_
  show isLstI _ (H a)
  rw [hH]
  exact q
theorem e_count {f k : Nat} {L : List Nat} {Q : QV} (hf : H f = some (.lst (natsV L))) (q : Q (.int ((L.count k : Nat) : Int)) H) : bCount [.ref f, .int (k : Nat)] H Q := by
  unfold bCount
  dsimp only
  rw [hf]
  dsimp only
  rw [intsOf_nats]
  dsimp only
  rw [count_nats]
  exact q
theorem cnt_two {f : Nat} {L : List Nat} {ρ : List V} {Q : QV} (hρ : ρ[6]? = some (.ref f)) (hf : H f = some (.lst (natsV L))) (hl : L.length ≤ 1000) (q : Q (.int ((L.count 0 * 2 : Nat) : Int)) H) :
    pOp2 (bAr .Mult) (pLm bCount (pLoc 6) (pCons (pVal (.int 0)) pNil)) (pVal (.int 2)) (CN d) ρ H Q := by
  have hc : L.count 0 ≤ 1000 := Nat.le_trans List.count_le_length hl
  have e1 := @bAr_mul ((L.count 0 : Nat) : Int) 2 H (small_nat (by omega))
  generalize bAr .Mult = B at e1 ⊢
  refine e_pOp2 (e_lm1 hρ hf (e_count (k := 0) hf (e_op2K (e_val (e_op2 e1 ?_)))))
  rw [Int.natCast_mul] at q
  exact q
end

section
variable {H : Hp} {d : Nat} {Qm : QS} {C : Cl} {ρ : List V}
theorem e_if {t : pTest} {a b : ST} (q : t C ρ H (ifK a b C ρ Qm)) : sIf t a b C ρ H Qm := q
theorem e_or {a b : pTest} {Q : Bool → Hp → Prop} (q : a C ρ H (orK b C ρ Q)) : tOr a b C ρ H Q := q
theorem e_orK {b : pTest} {Q : Bool → Hp → Prop} (q : b C ρ H Q) : orK b C ρ Q false H := q
theorem e_cmp {B : V → V → Hp → Option Bool} {a b : PT} {Q : Bool → Hp → Prop} (q : a C ρ H (cmpK B b C ρ Q)) : tCmp B a b C ρ H Q := q
theorem e_cmpK {B : V → V → Hp → Option Bool} {b : PT} {x : V} {Q : Bool → Hp → Prop} (q : b C ρ H (cmpV B x Q)) : cmpK B b C ρ Q x H := q
theorem e_cmpV {B : V → V → Hp → Option Bool} {x y : V} {v : Bool} {Q : Bool → Hp → Prop} (h : B x y H = some v) (q : Q v H) : cmpV B x Q y H := by
  show optQ Q H (B x y H)
  rw [h]
  exact q
theorem bNe_same (i : Int) : bNe (.int i) (.int i) H = some false := by
  show (some (i == i)).map _ = _
  rw [beq_self_eq_true]
  rfl
theorem e_from {f : Nat} {i : Nat} {L : List Nat} {Q : QV} (hf : H f = some (.lst (natsV L))) (hL : L.length ≤ 1000) (q : ∀ a, H a = none → Q (.ref a) (H.set a (.lst (natsV (L.drop i))))) : slK4 (.ref f) (.int (i : Nat)) .none Q .none H := by
  show slQ (.ref f) (.int (i : Nat)) .none .none H Q
  unfold slQ
  dsimp only [partOf]
  rw [hf]
  dsimp only [slL]
  rw [if_pos (Int.natCast_nonneg i)]
  dsimp only
  refine ⟨by unfold natsV; rw [List.length_map]; omega, fun a ha => ?_⟩
  have := q a ha
  rw [Int.toNat_natCast]
  unfold natsV at this ⊢
  rw [← List.map_drop]
  exact this
theorem cont_nats (l : List Nat) : (l.map fun k => ((k : Nat) : Int)).contains 0 = l.contains 0 := by
  induction l with
  | nil => rfl
  | cons e l ih =>
    rw [List.map_cons, List.contains_cons, List.contains_cons, ih]
    congr 1
    rw [Bool.eq_iff_iff, beq_iff_eq, beq_iff_eq]
    omega
theorem law_tests {a b f : Nat} {x0 x1 x3 x7 x8 x9 : V} (h : (a, b) ∈ pairs2) (hf : H f = some (.lst (natsV (serL (twoN a b) (a * b - b)))))
    (q : ∀ H', Ext H H' → Qm .next ([x0, x1, .int a, x3, .int b, .int ((a * b - a - b : Nat) : Int), .ref f, x7, x8, x9] ++ tail5) H') :
    P_law_5 (CN (d + 9)) ([x0, x1, .int a, x3, .int b, .int ((a * b - a - b : Nat) : Int), .ref f, x7, x8, x9] ++ tail5) H Qm := by
  have hb := pair_bd h
  have h1 := hb.1
  have h2 := hb.2.1
  have h3 := hb.2.2.1
  have h4 := hb.2.2.2.1
  have h5 := hb.2.2.2.2.1
  have h6 := hb.2.2.2.2.2
  clear hb
  have hs := List.all_eq_true.mp two_ser _ h
  dsimp only at hs
  rw [Bool.and_eq_true, Bool.and_eq_true, beq_iff_eq, beq_iff_eq, Bool.not_eq_true'] at hs
  obtain ⟨s1, s2, s3⟩ := hs
  have hL : (serL (twoN a b) (a * b - b)).length ≤ 1000 := by unfold serL; rw [List.length_map, List.length_range]; omega
  have hg := @serL_get (twoN a b) (a * b - a - b) (a * b - b) (by omega)
  rw [s2] at hg
  generalize serL (twoN a b) (a * b - b) = L at hf s1 s3 hL hg
  unfold P_law_5
  refine e_if (e_or (e_cmp (e_loc rfl nofun (e_cmpK (e_val (e_cmpV (v := false) rfl (e_orK ?_)))))))
  refine e_or (e_cmp (cnt_two rfl hf hL (e_cmpK (two_sub (a := a) (b := b) rfl rfl h3 h1 h4 (e_cmpV (v := false) ?_ (e_orK ?_))))))
  · rw [s1]; exact bNe_same _
  · have ei : bIdx (.ref f) (.int ((a * b - a - b : Nat) : Int)) H = some (.int (0 : Nat)) := by
      unfold bIdx
      dsimp only
      rw [hf]
      dsimp only
      rw [if_pos ⟨Int.natCast_nonneg _, by unfold natsV; rw [List.length_map]; omega⟩, Int.toNat_natCast]
      exact hg
    refine e_or (e_cmp (e_pOp2 (e_loc rfl nofun (e_op2K (e_loc rfl nofun (e_op2 ei (e_cmpK (e_val (e_cmpV (v := false) rfl (e_orK ?_))))))))))
    have ea : bAr .Add (.int ((a * b - a - b : Nat) : Int)) (.int 1) H = some (.int ((a * b - a - b + 1 : Nat) : Int)) := rfl
    generalize bAr .Add = B at ea ⊢
    refine e_cmp (e_val (e_cmpK ?_))
    refine e_loc rfl nofun ?_
    show slK1 _ _ _ _ _ _ _ _
    refine e_pOp2 (e_loc rfl nofun (e_op2K (e_val (e_op2 ea ?_))))
    show slK4 (.ref f) (.int ((a * b - a - b + 1 : Nat) : Int)) .none _ .none H
    refine e_from hf hL fun s hs => ?_
    refine e_cmpV (v := false) ?_ ?_
    · unfold bIn
      dsimp only
      rw [Hp.set_self]
      dsimp only
      rw [intsOf_nats]
      refine congrArg some ?_
      dsimp only
      rw [cont_nats, s3]
    · exact q _ ((Ext.refl H).set hs _)
theorem law_kind {c : Nat} {x0 x1 x2 x4 x5 x6 x7 x8 x9 : V} (hc : Cells c H)
    (q : ∀ kd H', kd = [99, 97, 116] ∨ kd = [97, 108, 116] → Cells c H' → Exc [c] H H' → Qm .next ([x0, x1, x2, .ref c, x4, x5, x6, .str kd, x8, x9] ++ tail5) H') : P_law_6 (CN (d + 9)) ([x0, x1, x2, .ref c, x4, x5, x6, x7, x8, x9] ++ tail5) H Qm := by
  simp only [P_law_6, sAsg, pVal, pLoc, pOp2, pList, pNil, pCons, pCall, atMost, op2K, consV, consK, listK, callK, List.getElem?_cons_succ, List.getElem?_cons_zero, List.cons_append, List.nil_append]
  intro a ha
  refine c_pick (by omega) (hc.fresh ha _) fun k H1 hk0 hk h1 x1 => ?_
  have ha2 := x1.keep (Hp.set_self _ _ _) (hc.ne ha)
  have X1 := ((Exc.refl [c] H).set (.inr ha) (.lst [V.str [99, 97, 116], V.str [97, 108, 116]])).trans x1
  obtain rfl | rfl : k = 0 ∨ k = 1 := by omega
  · simp only [ha2, bIdx, optQ_some, op2V, asgK, List.getElem?_cons_zero, List.set_cons_succ, List.set_cons_zero, List.length_cons, List.length_nil, Nat.reduceAdd, Nat.reduceLeDiff, Int.reduceToNat, Int.le_refl, and_true, reduceIte]; exact q _ H1 (.inl rfl) h1 X1
  · simp only [ha2, bIdx, optQ_some, op2V, asgK, List.getElem?_cons_succ, List.getElem?_cons_zero, List.set_cons_succ, List.set_cons_zero, List.length_cons, List.length_nil, Nat.reduceAdd, Nat.reduceLeDiff, Int.reduceLE, Int.reduceToNat, and_true, reduceIte]; exact q _ H1 (.inr rfl) h1 X1
theorem law_node {c : Nat} {x0 x1 x2 x4 x5 x6 x8 x9 : V} {kd : List Nat} (hk : kd = [99, 97, 116] ∨ kd = [97, 108, 116]) (hc : Cells c H)
    (q : ∀ (n : Nd) (m : Nat) H', Wh n → m ≤ 5 → Cells c H' → Exc [c] H H' → Qm .next ([x0, x1, x2, .ref c, x4, x5, x6, .str kd, n.v 0, .int m] ++ tail5) H') : P_law_7 (CN (d + 9)) ([x0, x1, x2, .ref c, x4, x5, x6, .str kd, x8, x9] ++ tail5) H Qm := by
  simp only [P_law_7, sSwap, pLoc, pTup, pNil, pCons, pCall, consV, consK, callK, List.getElem?_cons_succ, List.getElem?_cons_zero, List.cons_append, List.nil_append]
  refine c_part (r := 0) hc fun n1 H1 p1 h1 x1 => ?_
  simp only [pLoc, pNil, pCons, pCall, consV, consK, callK, List.getElem?_cons_succ, List.getElem?_cons_zero]
  refine c_part (r := 0) h1 fun n2 H2 p2 h2 x2 => ?_
  simp only [pVal, pLoc, pNil, pCons, pCall, atMost, consV, consK, tupK, callK, List.getElem?_cons_succ, List.getElem?_cons_zero]
  refine c_pick (by omega) h2 fun k H3 hk0 hk6 h3 x3 => ?_
  obtain ⟨m, rfl⟩ := Int.eq_ofNat_of_zero_le hk0
  simp only [pNil, two, atMost, consV, consK, tupK, swapK2, swapK, List.set_cons_succ, List.set_cons_zero]
  have X := x1.trans (x2.trans x3)
  rcases hk with rfl | rfl
  · exact q (.cat n1 n2) m H3 (.cat p1 p2) (by omega) h3 X
  · exact q (.alt n1 n2) m H3 (.alt p1 p2) (by omega) h3 X
theorem law_equal {x0 x1 x2 x3 x4 x5 x6 x7 : V} {n : Nd} {m : Nat} (hn : Wh n) (hm : m ≤ 5) (q : ∀ ρ H', Ext H H' → Qm (.ret (.bool true)) ρ H') :
    P_law_8 (CN (d + 9)) ([x0, x1, x2, x3, x4, x5, x6, x7, n.v 0, .int m] ++ tail5) H Qm := by
  simp only [P_law_8, sRet, pLoc, pNil, pCons, pCall, pOfT, tCmp, consV, consK, callK, List.getElem?_cons_succ, List.getElem?_cons_zero, List.cons_append, List.nil_append, lq_nd]
  have hf := few_wh (s := ones m) (by rw [ones_len]; omega) hn
  refine c_counted (n := n) (r := 0) (m := m) (d := d) (wh_w hn).2 (wh_w hn).1 (wh_pl hn) (by omega) hf fun a H1 ha h1 X1 => ?_
  simp only [pLoc, pNil, pCons, pCall, cmpK, consV, consK, callK, List.getElem?_cons_succ, List.getElem?_cons_zero, lq_nd]
  refine ser_wh (r := 0) hn hm (d + 9) H1 _ (by omega) fun b H2 hb h2 X2 => ?_
  have e1 : H2 a = some (.lst (natsV (serL n m))) := (X2 a (by rw [h1]; nofun)).trans h1
  have e : eqLs H2 a b = some true := by
    unfold eqLs
    rw [e1, h2]
    dsimp only
    have es : strsOf (natsV (serL n m)) = none := by
      unfold natsV serL
      rw [List.range_succ_eq_map]
      rfl
    rw [es]
    dsimp only
    rw [intsOf_nats]
    dsimp only
    rw [beq_self_eq_true]
  simp only [e, bEq, optQ_some, cmpV, ofTK, retK]
  exact q _ H2 (X1.trans X2)
end

section
variable {H : Hp} {d : Nat}
theorem p_law {Qr : QS} {xs : List Int} (hx : xs.length ≤ 63) (q : ∀ ρ H', Ext H H' → Qr (.ret (.bool true)) ρ H') : P_law (CN (d + 9)) (.rol (xs.map .int) :: List.replicate 14 .un) H Qr := by
  unfold P_law
  rw [w_seq]
  simp only [consV, consK, listK, asgK, atMost, P_law_0, sAsg, pList, pCons, pNil, pVal]
  refine fun u hu => ?_
  rw [w_seq]
  refine law_cells (xs := xs) (us := [0, 0, 3, 1, 1, 2, 3, 4, 3, 0, 0, 0, 0, 0, 0]) (Hp.set_self _ _ _) hx (by simp) (by simp) fun c H1 hc hc0 X1 => ?_
  have hc1 : H c = none := (none_set hc0).2
  have X1' : Ext H H1 := ((Ext.refl H).set hu _).trans X1
  have nx : ∀ {A B : Hp}, Ext H A → Exc [c] A B → Ext H B := fun h1 h2 b hb => by
    rw [h2 b (by rw [h1 b hb]; exact hb) (by simp only [List.mem_cons, List.not_mem_nil, or_false]; intro e; exact hb (e ▸ hc1))]; exact h1 b hb
  have cx : ∀ {A B : Hp}, Cells c A → Ext A B → Cells c B := fun h1 h2 => by
    obtain ⟨is, g1, g2, g3⟩ := h1
    exact ⟨is, (h2 c (by rw [g1]; nofun)).trans g1, g2, g3⟩
  try dsimp only
  rw [w_seq]
  refine law_pair hc fun a b H2 hp h2 x2 => ?_
  have X2 := nx X1' x2
  try dsimp only
  rw [w_seq]
  have L := @law_last
  generalize P_law_3 = P at L ⊢
  refine L hp ?_
  clear L
  try dsimp only
  rw [w_seq]
  refine law_found hp fun f H3 x3 hf => ?_
  have h3 := cx h2 x3
  have X3 := X2.trans x3
  try dsimp only
  rw [w_seq]
  refine law_tests hp hf fun H4 x4 => ?_
  have h4 := cx h3 x4
  have X4 := X3.trans x4
  try dsimp only
  rw [w_seq]
  refine law_kind h4 fun kd H5 hk h5 x5 => ?_
  have X5 := nx X4 x5
  try dsimp only
  rw [w_seq]
  refine law_node hk h5 fun n m H6 hn hm h6 x6 => ?_
  have X6 := nx X5 x6
  try dsimp only
  rw [w_seq]
  refine law_equal hn hm fun ρ H7 x7 => ?_
  exact q ρ H7 (X6.trans x7)
end

noncomputable abbrev lawSt : Stmt := tops 89
theorem law_sc1 : (fdS lawSt).names.lookup ("script" : Str) = some .local := by decide +kernel
theorem law_sc2 : ndB ((cellsFrom 0 (fdS lawSt).names []).map (·.1)) = true := by decide +kernel
theorem law_sc3 : lk ("script" : Str) (fdS lawSt).names 0 = some (0, .local) := by decide +kernel
theorem law_sc4 : ndB ((fdS lawSt).names.map (·.1)) = true := by decide +kernel
theorem law_sc5 : (fdS lawSt).names.all (fun p => !(p.1 == ("__debug__" : Str))) = true := by decide +kernel
theorem law_sc6 : (fdS lawSt).isCoroutine = false := by decide +kernel
theorem law_sc7 : (fdS lawSt).isGenerator = false := by decide +kernel
theorem law_sc8 : isFnKind (fdS lawSt).kind = true := by decide +kernel
theorem call_room : ∀ env, Room (callerA.deeper env) 9 := fun env => ⟨(by decide : callerA.depth + 1 + 3 * 9 + 3 < recursionLimit), (by decide : callerA.units + 3 + 20 * 9 + 20 < cLine)⟩
theorem law_S {c : Cx} (G : Gl c) : SSs c (fdS lawSt).names (fdB lawSt) P_law := by
  rw [fdS_names]
  exact @S_law c G
theorem law_9 {xs : List Int} (hx : xs.length ≤ 63) : P_law (callN FT 9) (.rol (xs.map .int) :: List.replicate 14 .un) (fun _ => none) (fun fl _ _ => retV fl = .bool true) :=
  @p_law (fun _ => none) 0 (fun fl _ _ => retV fl = .bool true) xs hx fun _ _ _ => rfl
theorem ints_VRs {T : Led} {vs : List Value} {xs : List Int} (h : IntsAre vs xs) : VRs T (xs.map .int) vs := by
  induction h with
  | nil => exact .nil
  | cons n t _ ih => exact .cons (.int n t) ih
theorem law_walk {prog : Program} {w : World} {K : Frag} {mg mb : Str → Option Value} {s : Shared} (X : K.In s.heap) (Tg : s.heap.Ns mainGlobals mg) (Tb : s.heap.Ns builtinsNs mb) (lim : s.heap.NoLimit) (hb : ∀ x : Str, x ≠ "__name__" → mb x = bootBuiltins x)
    (h1 : attrChk K = true) (h2 : clsChk K = true) (h3 : methChk K = true) (h4 : fnsChk K fnRows = true) (h5 : fnsAre K fnRows) (h6 : (glChk K).all id = true)
    {name : Str} {params : Arguments} {scope : Scope} {body : List Stmt} {pm cd doc : Value} {a sc : Addr} {o : Obj} {ws : List Value} {xs : List Int}
    (ho : s.heap.get? a = some o) (hd : o.data = .func (docDef name params body scope pm cd doc)) (hcd : s.heap.CodeRec cd name)
    (hbody : body = fdB lawSt) (hscope : scope = fdS lawSt) (hp : (params.posonlyargs.isEmpty && (params.kwonlyargs.isEmpty && (params.vararg.isNone && (params.kwarg.isNone && params.args.map (·.arg) == [("script" : Str)])))) = true)
    (hl : s.heap.IsList sc ws.toArray) (hi : IntsAre ws xs) (hx : xs.length ≤ 63)
    {R : Result → Shared → Prop} (hR : ∀ h' tk, (∀ b o, s.heap.get? b = some o → h'.get? b = some o) → R (.ok (.ret (.bool true))) { s with heap := h', toks := tk }) :
    codeAny (model prog w) callerA (.call (.ref a) ⟨[.ref sc], []⟩) R s := by
  subst hbody hscope
  obtain ⟨ob, hob, hcl, n, hda⟩ := hl
  obtain ⟨w1, k1⟩ := tup_ALONE h6
  obtain ⟨w2, k2⟩ := tup_SINGLE h6
  have B : Base ⟨prog, w, K, mg, mb, [(sc, ob), (16, tupObj w1 0), (15, tupObj w2 0)]⟩ s.heap := by
    refine ⟨gd_of h1 h2 h3, X, Tg, Tb, lim, fun p hp => ?_⟩
    simp only [List.mem_cons, List.not_mem_nil, or_false] at hp
    rcases hp with rfl | rfl | rfl
    · exact hob
    · exact X _ _ k1
    · exact X _ _ k2
  have G : Gl ⟨prog, w, K, mg, mb, [(sc, ob), (16, tupObj w1 0), (15, tupObj w2 0)]⟩ := gl_of B hb h6 k1 (.tail _ (.head _)) k2 (.tail _ (.tail _ (.head _)))
  simp only [Bool.and_eq_true] at hp
  obtain ⟨p1, p2, p3, p4, p5⟩ := hp
  have p5 := beq_iff_eq.mp p5
  refine @top_call ⟨prog, w, K, mg, mb, [(sc, ob), (16, tupObj w1 0), (15, tupObj w2 0)]⟩ callerA (by decide) rfl FT 9 call_room (@ft_ok _ G h4 h5) s (below_caller _) B ("script" : Str) name params (fdS lawSt) (fdB lawSt) pm cd doc a sc o (xs.map .int) ws n 14 P_law
    ho hd hcd ?_ law_sc1 (ndB_nodup law_sc2) law_sc3 (ndB_nodup law_sc4) law_sc5 law_sc6 law_sc7 (isFnKind_of law_sc8) ?_ ob (.head _) hcl hda (ints_VRs hi) ?_ R hR
  · have := bind_plain (fd := docDef name params (fdB lawSt) (fdS lawSt) pm cd doc) (xs := [.ref sc]) (ns := [("script" : Str)]) (List.isEmpty_iff.mp p1) (List.isEmpty_iff.mp p2) (Option.isNone_iff_eq_none.mp p3) (Option.isNone_iff_eq_none.mp p4) rfl p5 (by simp) rfl
    exact this
  · exact @law_S _ G
  · exact law_9 hx


theorem post_true {args : List WData} : PySem.Challenge.rw_sj0201_02.row.toRowW.claim.post args (.bool true) args = true := by
  refine postW_of (by wrow_shape) (by wtm_val) (by w_fin)
set_option Elab.async true
set_option maxHeartbeats 8000000
theorem main.tw6318857278017995225 : True := trivial
theorem main.tw11156056980113079860 : True := trivial
theorem main.tw9926860303592133211 : True := trivial
theorem main.tw1051108251117913619 : True := trivial
theorem main.tw15683502518078909336 : True := trivial
theorem main.tw17068529054762260900 : True := trivial
theorem main.tw16826212616301561204 : True := trivial
theorem main.tw15632155201295862456 : True := trivial
theorem main.tw2472957557863559451 : True := trivial
theorem main.tw15577286369154851727 : True := trivial
theorem main.tw14496318526114002922 : True := trivial
theorem main.tw6909042917933305093 : True := trivial
theorem main.tw17985968254628205384 : True := trivial
theorem main.tw12992176717851604617 : True := trivial
theorem main.tw13974046611088194958 : True := trivial
theorem main.tw10982014176374687213 : True := trivial
theorem main.tw18287795668848337631 : True := trivial
theorem main.tw13132915859168520264 : True := trivial
theorem main.tw12900284412222446716 : True := trivial
theorem main.tw8593545808235389341 : True := trivial
theorem main.tw9155575984036265788 : True := trivial
theorem main.tw14247123612743402574 : True := trivial
theorem main.tw587027183488705336 : True := trivial
theorem main.tw8905464785575363620 : True := trivial
theorem main.tw9986019674649008433 : True := trivial
theorem main.tw12431731261707249289 : True := trivial
theorem main.tw15803610866087392283 : True := trivial
theorem main.tw1630245386807275959 : True := trivial
theorem main.tw11218778669853930896 : True := trivial
theorem main.tw5102693214775723256 : True := trivial
theorem main.tw387501639795913443 : True := trivial
theorem main.tw14708136634888185200 : True := trivial
theorem main.tw9848185148710128376 : True := trivial
theorem main.tw17744803880545564790 : True := trivial
theorem main.tw4452170602077327944 : True := trivial
theorem main.tw2852251193174398662 : True := trivial
theorem main.tw2427681307422652563 : True := trivial
theorem main.tw13447220332142360421 : True := trivial
theorem main.tw3299218664060906527 : True := trivial
theorem main.tw1645717771770832407 : True := trivial
theorem main.tw6602769958212442538 : True := trivial
theorem main.tw16153842264607907944 : True := trivial
theorem main.tw16572128252103988241 : True := trivial
theorem main.tw6855474311058116810 : True := trivial
theorem main.tw10075741158759491788 : True := trivial
theorem main.tw14064073609400967072 : True := trivial
theorem main.tw7647378279178456250 : True := trivial
theorem main.tw11092141859048813250 : True := trivial
theorem main.tw2921958311620399285 : True := trivial
theorem main.tw17871620999419790863 : True := trivial
theorem main.tw1150287232629052791 : True := trivial
theorem main.tw4386525302292870143 : True := trivial
theorem main.tw10750994468655217958 : True := trivial
theorem main.tw3372685494851243017 : True := trivial
theorem main.tw6183352029847204284 : True := trivial
theorem main.tw3314904115985164895 : True := trivial
theorem main.tw16519101796099990279 : True := trivial
theorem main.tw16778611742570070204 : True := trivial
theorem main.tw5363903885879670357 : True := trivial
theorem main.tw17268439761433841065 : True := trivial
theorem main.tw7439787175107056256 : True := trivial
theorem main.tw12608185968620612914 : True := trivial
theorem main.tw7221758910455160077 : True := trivial
theorem main.tw17146568849442343683 : True := trivial
theorem main.tw6907636171062424033 : True := trivial
theorem main.tw12205347405646519318 : True := trivial
theorem main.tw3562595001068472590 : True := trivial
theorem main.tw9406782406253462049 : True := trivial
theorem main.tw10450603732522932521 : True := trivial
theorem main.tw6511744376749373798 : True := trivial
theorem main.tw2406621943657119228 : True := trivial
theorem main.tw13972245371655741198 : True := trivial
theorem main.tw9268297945177815525 : True := trivial
theorem main.tw14027531716089632829 : True := trivial
theorem main.tw2895952525429962455 : True := trivial
theorem main.tw10896356407431480244 : True := trivial
theorem main.tw223528310411579522 : True := trivial
theorem main.tw5781596087445459943 : True := trivial
theorem main.tw15303317825217679618 : True := trivial
theorem main.tw5585478044538960755 : True := trivial
theorem main.tw15955573374722617477 : True := trivial
theorem main.tw11692516046256081784 : True := trivial
theorem main.tw7332552209862256014 : True := trivial
theorem main.tw5518243967957118194 : True := trivial
theorem main.tw11101190512080308003 : True := trivial
theorem main.tw4637267157515435788 : True := trivial
theorem main.tw11273777480241942364 : True := trivial
theorem main.tw6788530277367551627 : True := trivial
theorem main.tw1632041292262086317 : True := trivial
theorem main.tw9265829497004654079 : True := trivial
theorem main.tw6801380410627298636 : True := trivial
theorem main.tw451873465583785326 : True := trivial
theorem main.tw14539993770535171780 : True := trivial
theorem main.tw16046730324260685337 : True := trivial
theorem main.tw17297283025540448806 : True := trivial
theorem main.tw5084117380071580128 : True := trivial
theorem main.tw11409991511011244131 : True := trivial
theorem main.tw7093617532817203218 : True := trivial
theorem main.tw2019394398466159022 : True := trivial
theorem main.tw17644181745481072423 : True := trivial
theorem main.tw3394367416137920725 : True := trivial
theorem main.tw6655696309031964122 : True := trivial
theorem main.tw18234761425742761375 : True := trivial
theorem main.tw15580989882048331800 : True := trivial
theorem main.tw13406003279186336099 : True := trivial
theorem main.tw4365514962571936147 : True := trivial
theorem main.tw8046773169563483271 : True := trivial
theorem main.tw4261964983698606537 : True := trivial
theorem main.tw14457758005677747962 : True := trivial
theorem main.tw13777938177461255882 : True := trivial
theorem main.tw16452447596832230105 : True := trivial
theorem main.tw15984706205718930553 : True := trivial
theorem main.tw6361450105264607166 : True := trivial
theorem main.tw15510692781650021527 : True := trivial
theorem main.tw9730157408454304684 : True := trivial
theorem main.tw9512817274939609580 : True := trivial
theorem main.tw11239335112260394413 : True := trivial
theorem main.tw4766233809647381661 : True := trivial
theorem main.tw16806246253224384389 : True := trivial
theorem main.tw10171042928508624079 : True := trivial
theorem main.tw14218914174604095658 : True := trivial
theorem main.tw17403364634526059139 : True := trivial
theorem main.tw2287757881348798766 : True := trivial
theorem main.tw9302470337196694018 : True := trivial
theorem main.tw2724176850512262202 : True := trivial
theorem main.tw14562738103837258888 : True := trivial
theorem main.tw7698036289167662538 : True := trivial
theorem main.tw7237411587787531456 : True := trivial
theorem main.tw17128291446047057950 : True := trivial
theorem main.tw5240779543111244032 : True := trivial
theorem main.tw12885385263037960081 : True := trivial
theorem main.tw11712081513822626495 : True := trivial
theorem main.tw10876375607700338302 : True := trivial
theorem main.tw11221353774195762014 : True := trivial
theorem main.tw9376575566392132001 : True := trivial
theorem main.tw8627561154394265716 : True := trivial
theorem main.tw18238007617527299592 : True := trivial
theorem main.tw13876859957761632879 : True := trivial
theorem main.tw2714283472998740243 : True := trivial
theorem main.tw15109750227778091905 : True := trivial
theorem main.tw9925469786538053656 : True := trivial
theorem main.tw10825838108423173272 : True := trivial
theorem main.tw16008252555379753968 : True := trivial
theorem main.tw10149618387772673413 : True := trivial
theorem main.tw9994787619460420439 : True := trivial
theorem main.tw9121559901702372667 : True := trivial
theorem main.tw13110577991587790113 : True := trivial
theorem main.tw10821422270917381399 : True := trivial
theorem main.tw12431561837914552411 : True := trivial
theorem main.tw7113585516715319716 : True := trivial
theorem main.tw10707853282979444102 : True := trivial
theorem main.tw4775608329324902142 : True := trivial
theorem main.tw11716418206903941319 : True := trivial
theorem main.tw1714950047550659301 : True := trivial
theorem main.tw5638201095994319732 : True := trivial
theorem main.tw17974016328880235120 : True := trivial
theorem main.tw1270039299266317192 : True := trivial
theorem main.tw4038153913678941442 : True := trivial
theorem main.tw17118054049896295152 : True := trivial
theorem main.tw17336282652733537790 : True := trivial
theorem main.tw12747388180105724736 : True := trivial
theorem main.tw17272174723667511238 : True := trivial
theorem main.tw14907226015203709474 : True := trivial
theorem main.tw4500915450034043215 : True := trivial
theorem main.tw1118068078248606362 : True := trivial
theorem main.tw3027586509356016917 : True := trivial
theorem main.tw17737603089517620647 : True := trivial
theorem main.tw10204856939554784155 : True := trivial
theorem main.tw7514964652732493775 : True := trivial
theorem main.tw11857135199678951331 : True := trivial
theorem main.tw1453356044741674121 : True := trivial
theorem main.tw6785657489111691699 : True := trivial
theorem main.tw9417822746687237092 : True := trivial
theorem main.tw10455743928339290457 : True := trivial
theorem main.tw18302796317244248524 : True := trivial
theorem main.tw15467891735981029475 : True := trivial
theorem main.tw4324958949535026087 : True := trivial
theorem main.tw8440099810896429113 : True := trivial
theorem main.tw10123989817122485451 : True := trivial
theorem main.tw14771111431291430275 : True := trivial
theorem main.tw3583811862363856187 : True := trivial
theorem main.tw4749052000479324790 : True := trivial
theorem main.tw12922898485456448571 : True := trivial
theorem main.tw104360540948158410 : True := trivial
theorem main.tw7884331609784382070 : True := trivial
theorem main.tw6237627108579964202 : True := trivial
theorem main.tw1615956725737779560 : True := trivial
theorem main.tw2900998541784483753 : True := trivial
theorem main.tw17298425922696826006 : True := trivial
theorem main.tw6162249291895867263 : True := trivial
theorem main.tw1677766988990989824 : True := trivial
theorem main.tw8079908401900000222 : True := trivial
theorem main.tw9897820754763898449 : True := trivial
theorem main.tw12590340796369385619 : True := trivial
theorem main.tw17958375852430007124 : True := trivial
theorem main.tw8663697691656813868 : True := trivial
theorem main.tw15554039934745177238 : True := trivial
theorem main.tw11735423636902730196 : True := trivial
theorem main.tw15558288988949320067 : True := trivial
theorem main.tw10864377008497418100 : True := trivial
theorem main.tw7298748307773712898 : True := trivial
theorem main.tw12455012482086183272 : True := trivial
theorem main.tw11403851563620829512 : True := trivial
theorem main.tw12361340156312767134 : True := trivial
theorem main.tw10234815189450012239 : True := trivial
theorem main.tw15734660467963936456 : True := trivial
theorem main.tw18134284020713443437 : True := trivial
theorem main.tw13724616953566380437 : True := trivial
theorem main.tw17091655785135471103 : True := trivial
theorem main.tw8478376212529829071 : True := trivial
theorem main.tw11086099901593105684 : True := trivial
theorem main.tw11476092923266045095 : True := trivial
theorem main.tw17353955331779342651 : True := trivial
theorem main.tw3829396358689915599 : True := trivial
theorem main.tw18190005008629794160 : True := trivial
theorem main.tw7590696779544312186 : True := trivial
theorem main.tw5396361742852586263 : True := trivial
theorem main.tw15270170921892066516 : True := trivial
theorem main.tw17057053908230417247 : True := trivial
theorem main.tw65644731488775911 : True := trivial
theorem main.tw10642606787283503386 : True := trivial
theorem main.tw4126091431370883743 : True := trivial
theorem main.tw10652863235454686790 : True := trivial
theorem main.tw9498315638749924794 : True := trivial
theorem main.tw6690441779611380620 : True := trivial
theorem main.tw7974275031393228247 : True := trivial
theorem main.tw9903775340124721222 : True := trivial
theorem main.tw12646911602827044314 : True := trivial
theorem main.tw18063282731904131703 : True := trivial
theorem main.tw1277820614484962519 : True := trivial
theorem main.tw16320729459185622934 : True := trivial
theorem main.tw15225127925928830808 : True := trivial
theorem main.tw7308723440029596264 : True := trivial
theorem main.tw13224007501803129859 : True := trivial
theorem main.tw14759895335926876869 : True := trivial
theorem main.tw14080665800827857628 : True := trivial
theorem main.tw3706830351922483016 : True := trivial
theorem main.tw6696893160125735727 : True := trivial
theorem main.tw11544348965984651327 : True := trivial
theorem main.tw17695171507069755227 : True := trivial
theorem main.tw14161005256144132680 : True := trivial
theorem main.tw365850788961202214 : True := trivial
theorem main.tw16136984950599521427 : True := trivial
theorem main.tw1587290215689348708 : True := trivial
theorem main.tw8228058824784995430 : True := trivial
theorem main.tw1439166485080882 : True := trivial
theorem main.tw13547569757486424058 : True := trivial
theorem main.tw1469836325065767749 : True := trivial
theorem main.tw6697339332421208802 : True := trivial
theorem main.tw14798791472264738832 : True := trivial
theorem main.tw10663580350406149668 : True := trivial
theorem main.tw1496695287857109588 : True := trivial
theorem main.tw16008457594558532635 : True := trivial
theorem main.tw73751810991705359 : True := trivial
theorem main.tw1409966394225722968 : True := trivial
theorem main.tw2729793432009153956 : True := trivial
theorem main.tw12941917028564957548 : True := trivial
theorem main.tw7235775444256392728 : True := trivial
theorem main.tw12543713266681445118 : True := trivial
theorem main.tw13693970394777133609 : True := trivial
theorem main.tw341453280667917650 : True := trivial
theorem main.tw7268301785047649679 : True := trivial
theorem main.tw6741292078354696603 : True := trivial
theorem main.tw31828345220925962 : True := trivial
theorem main.tw6674386428176565332 : True := trivial
theorem main.tw33456957511925785 : True := trivial
theorem main.tw17292155258170135553 : True := trivial
theorem main.tw15356762974548107741 : True := trivial
theorem main.tw3627144658338631552 : True := trivial
theorem main.tw1156462466702112376 : True := trivial
theorem main.tw18120430973489738927 : True := trivial
theorem main.tw6075091234017535682 : True := trivial
theorem main.tw961187720498965250 : True := trivial
theorem main.tw11135027115929721415 : True := trivial
theorem main.tw4458048076830672230 : True := trivial
theorem main.tw15608450976537380609 : True := trivial
theorem main.tw4544244032028310869 : True := trivial
theorem main.tw18218335207050127959 : True := trivial
theorem main.tw10669944970481658594 : True := trivial
theorem main.tw4297412468100583042 : True := trivial
theorem main.tw12702744160499308131 : True := trivial
theorem main.tw8557395850702784662 : True := trivial
theorem main.tw1306636233014830658 : True := trivial
theorem main.tw3466206800631347469 : True := trivial
theorem main.tw6334894449686545209 : True := trivial
theorem main.tw2195194259037543316 : True := trivial
theorem main.tw7699798408344515789 : True := trivial
theorem main.tw3045742163950154196 : True := trivial
theorem main.tw5677329702179833609 : True := trivial
theorem main.tw10652611922669240339 : True := trivial
theorem main.tw11554813239044494598 : True := trivial
theorem main.tw10231336680788121439 : True := trivial
theorem main.tw221909299271738847 : True := trivial
theorem main.tw5160751907100791332 : True := trivial
theorem main.tw16035907590883218939 : True := trivial
theorem main.tw2279707942289718827 : True := trivial
theorem main.tw15624239662980076321 : True := trivial
theorem main.tw453184122279072053 : True := trivial
theorem main.tw11987853993630220354 : True := trivial
theorem main.tw12027323910402764344 : True := trivial
theorem main.tw11461230924637031220 : True := trivial
theorem main.tw2583023086579268501 : True := trivial
theorem main.tw5450094653865882931 : True := trivial
theorem main.tw10114013102757674387 : True := trivial
theorem main.tw962032349192862916 : True := trivial
theorem main.tw16305672181175384284 : True := trivial
theorem main.tw17450470499104002142 : True := trivial
theorem main.tw8260724100714396741 : True := trivial
theorem main.tw7332330508316399935 : True := trivial
theorem main.tw12885673836220544336 : True := trivial
theorem main.tw18178676814319149831 : True := trivial
theorem main.tw917386388269078853 : True := trivial
theorem main.tw15131278010643852716 : True := trivial
theorem main.tw17708487481403421675 : True := trivial
theorem main.tw5243159528196176124 : True := trivial
theorem main.tw12839114828313443825 : True := trivial
theorem main.tw9976160756891316704 : True := trivial
theorem main.tw3613476055612923068 : True := trivial
theorem main.tw1826329307503635854 : True := trivial
theorem main.tw12518504611687188807 : True := trivial
theorem main.tw18315214858253571532 : True := trivial
theorem main.tw13227692790652741651 : True := trivial
theorem main.tw7751025194823839400 : True := trivial
theorem main.tw6044114016751833949 : True := trivial
theorem main.tw8466321980469482115 : True := trivial
theorem main.tw2225956059507018244 : True := trivial
theorem main.tw9483120023164983764 : True := trivial
theorem main.tw10665469846841522134 : True := trivial
theorem main.tw8436210846270712021 : True := trivial
theorem main.tw10298723112805639129 : True := trivial
theorem main.tw11501822485730972192 : True := trivial
theorem main.tw13503263706703578961 : True := trivial
theorem main.tw16965079339398995527 : True := trivial
theorem main.tw4990475226369331113 : True := trivial
theorem main.tw16832360635688203351 : True := trivial
theorem main.tw16411370214107742406 : True := trivial
theorem main.tw4651154628705390771 : True := trivial
theorem main.tw9381277316556691805 : True := trivial
theorem main.tw10363585996791799541 : True := trivial
theorem main.tw7411558596216406370 : True := trivial
theorem main.tw7846812961960373227 : True := trivial
theorem main.tw7293298908176781663 : True := trivial
theorem main.tw9682133043923132273 : True := trivial
theorem main.tw11646826074482590764 : True := trivial
theorem main.tw11181722664286889309 : True := trivial
theorem main.tw12343854547171428336 : True := trivial
theorem main.tw1289389943133740499 : True := trivial
theorem main.tw3298483428156984901 : True := trivial
theorem main.tw6389877041954997217 : True := trivial
theorem main.tw17510229520200029679 : True := trivial
theorem main.tw14060465935940456498 : True := trivial
theorem main.tw17679725944135375923 : True := trivial
theorem main.tw6596593509180878263 : True := trivial
theorem main.tw18284262389922463811 : True := trivial
theorem main.tw3532412968194664532 : True := trivial
theorem main.tw2238316416991798583 : True := trivial
theorem main.tw4812270449578504274 : True := trivial
theorem main.tw11962923498438245051 : True := trivial
theorem main.tw8467378866343419333 : True := trivial
theorem main.tw11399646045708457374 : True := trivial
theorem main.tw17402982504261768225 : True := trivial
theorem main.tw2629084897520917108 : True := trivial
theorem main.tw2544328076492683441 : True := trivial
theorem main.tw6053611964639427726 : True := trivial
theorem main.tw7153082081811710619 : True := trivial
theorem main.tw12273490649430754879 : True := trivial
theorem main.tw5473700226181020891 : True := trivial
theorem main.tw16356685582667847594 : True := trivial
theorem main.tw8484041278411425421 : True := trivial
theorem main.tw12077450504624328385 : True := trivial
theorem main.tw6508729118710982530 : True := trivial
theorem main.tw3779293765908593550 : True := trivial
theorem main.tw15277975159832343749 : True := trivial
theorem main.tw8844999433837080629 : True := trivial
theorem main.tw716429049611869786 : True := trivial
theorem main.tw6542085627976250192 : True := trivial
theorem main.tw12463224122652932544 : True := trivial
theorem main.tw14492832472218066102 : True := trivial
theorem main.tw4039676971129161736 : True := trivial
theorem main.tw8118072479153026202 : True := trivial
theorem main.tw17236958762192778904 : True := trivial
theorem main.tw13626721169425172152 : True := trivial
theorem main.tw9957550378297406723 : True := trivial
theorem main.tw16689149305811164139 : True := trivial
theorem main.tw302440914744352476 : True := trivial
theorem main.tw2647654807098235363 : True := trivial
theorem main.tw2456247091588846565 : True := trivial
theorem main.tw7214478077546791972 : True := trivial
theorem main.tw5127751686995613262 : True := trivial
theorem main.tw11003572833241299968 : True := trivial
theorem main.tw14061640607465278742 : True := trivial
theorem main.tw4475767826048309731 : True := trivial
theorem main.tw10665089971535097683 : True := trivial
theorem main.tw1372806426800153423 : True := trivial
theorem main.tw13962693860625380366 : True := trivial
theorem main.tw15060185592220127646 : True := trivial
theorem main.tw17223442867436993403 : True := trivial
theorem main.tw18418235949754561950 : True := trivial
theorem main.tw13293747886898857621 : True := trivial
theorem main.tw3960113756560652017 : True := trivial
theorem main.tw7623511443260959870 : True := trivial
theorem main.tw10391951854915411234 : True := trivial
theorem main.tw4817600198373253283 : True := trivial
theorem main.tw10047389527955405517 : True := trivial
theorem main.tw1850612553970854742 : True := trivial
theorem main.tw13667920496262714385 : True := trivial
theorem main.tw9808303207383738048 : True := trivial
theorem main.tw15655026666472867930 : True := trivial
theorem main.tw11710404883906591787 : True := trivial
theorem main.tw14639212616227390028 : True := trivial
theorem main.tw3137596982192898869 : True := trivial
theorem main.tw18325589031809861271 : True := trivial
theorem main.tw6862492499505807319 : True := trivial
theorem main.tw6702130215012162313 : True := trivial
theorem main.tw2921621734765799159 : True := trivial
theorem main.tw4108550071563198673 : True := trivial
theorem main.tw17864028415675338326 : True := trivial
theorem main.tw9361300454564663673 : True := trivial
theorem main.tw15514936471743626214 : True := trivial
theorem main.tw18431692314602308842 : True := trivial
theorem main.tw3994622017586750766 : True := trivial
theorem main.tw1777545030009416734 : True := trivial
theorem main.tw10094358506670053839 : True := trivial
theorem main.tw12623159325031504133 : True := trivial
theorem main.tw2538046985915079169 : True := trivial
theorem main.tw765107192605250810 : True := trivial
theorem main.tw9515011664573035354 : True := trivial
theorem main.tw471287901995484742 : True := trivial
theorem main.tw4044139247061151142 : True := trivial
theorem main.tw1615045767204293396 : True := trivial
theorem main.tw13270728482189477470 : True := trivial
theorem main.tw8834365191522931223 : True := trivial
theorem main.tw17699438841360665129 : True := trivial
theorem main.tw18442785490491869365 : True := trivial
theorem main.tw16798622893749714585 : True := trivial
theorem main.tw13591255225166038476 : True := trivial
theorem main.tw834873547066669988 : True := trivial
theorem main.tw16819838333489098493 : True := trivial
theorem main.tw52199770228462824 : True := trivial
theorem main.tw4423423576564373014 : True := trivial
theorem main.tw16251939892948500945 : True := trivial
theorem main.tw13590572293223372214 : True := trivial
theorem main.tw6385024630547198690 : True := trivial
theorem main.tw8652556701797213591 : True := trivial
theorem main.tw4681395471914393968 : True := trivial
theorem main.tw6557543464795787104 : True := trivial
theorem main.tw9942282790977331292 : True := trivial
theorem main.tw9360745474812902239 : True := trivial
theorem main.tw1886080085820668685 : True := trivial
theorem main.tw5871769198996169552 : True := trivial
theorem main.tw3796207824708393856 : True := trivial
theorem main.tw13803360072150633466 : True := trivial
theorem main.tw832900586485598795 : True := trivial
theorem main.tw6912675738884088206 : True := trivial
theorem main.tw6584820252761975732 : True := trivial
theorem main.tw1098248734344127483 : True := trivial
theorem main.tw2524017781993486291 : True := trivial
theorem main.tw15491723280356408159 : True := trivial
theorem main.tw5665406974723832613 : True := trivial
theorem main.tw4573282807186111410 : True := trivial
theorem main.tw16049902774474827687 : True := trivial
theorem main.tw12483276189755474720 : True := trivial
theorem main.tw11120327062377616369 : True := trivial
theorem main.tw10609540516017602915 : True := trivial
theorem main.tw8952462522180670554 : True := trivial
theorem main.tw4585930131862741453 : True := trivial
theorem main.tw66260789543402106 : True := trivial
theorem main.tw15643365686152983790 : True := trivial
theorem main.tw18031918436515192882 : True := trivial
theorem main.tw1628013610222277130 : True := trivial
theorem main.tw13313126695403321540 : True := trivial
theorem main.tw13116522157475607773 : True := trivial
theorem main.tw8207831470162742035 : True := trivial
theorem main.tw16721930046160240684 : True := trivial
theorem main.tw12298629886278197574 : True := trivial
theorem main.tw656089360051881306 : True := trivial
theorem main.tw10463206416058312583 : True := trivial
theorem main.tw5517759331935216279 : True := trivial
theorem main.tw2566753976717531306 : True := trivial
theorem main.tw645136716886899192 : True := trivial
theorem main.tw1545906260438175962 : True := trivial
theorem main.tw3343439749351644125 : True := trivial
theorem main.tw6449824600675878752 : True := trivial
theorem main.tw48596604365144762 : True := trivial
theorem main.tw6112859857366181021 : True := trivial
theorem main.tw16193401482309157537 : True := trivial
theorem main.tw15589955886551607785 : True := trivial
theorem main.tw18392154025008590481 : True := trivial
theorem main.tw8748973510418095054 : True := trivial
theorem main.tw13402765919934010277 : True := trivial
theorem main.tw2190695567426971638 : True := trivial
theorem main.tw11261727412033496967 : True := trivial
theorem main.tw18403998269306519403 : True := trivial
theorem main.tw14909365282108701170 : True := trivial
theorem main.tw5649967823195072380 : True := trivial
theorem main.tw15365013842991253249 : True := trivial
theorem main.tw1157997071576566072 : True := trivial
theorem main.tw3234112476842188716 : True := trivial
theorem main.tw2702614204127132176 : True := trivial
theorem main.tw12093647306153771053 : True := trivial
theorem main.tw16480584520131690045 : True := trivial
theorem main.tw6788695710022549768 : True := trivial
theorem main.tw14439473939278146460 : True := trivial
theorem main.tw3934531018447913466 : True := trivial
theorem main.tw9756827057097773860 : True := trivial
theorem main.tw12057704586751987240 : True := trivial
theorem main.tw8930851030842425676 : True := trivial
theorem main.tw15079240505294077160 : True := trivial
theorem main.tw1027651156746619712 : True := trivial
theorem main.tw13350764725976880583 : True := trivial
theorem main.tw7083192437325867461 : True := trivial
theorem main.tw9392487213469676918 : True := trivial
theorem main.tw3626430660855392483 : True := trivial
theorem main.tw2744014450722944760 : True := trivial
theorem main.tw8475525182357872103 : True := trivial
theorem main.tw3848698983108048278 : True := trivial
theorem main.tw11487549891475536569 : True := trivial
theorem main.tw12670839924663504800 : True := trivial
theorem main.tw6877560268529008848 : True := trivial
theorem main.tw15410482203810522393 : True := trivial
theorem main.tw14662554035588321541 : True := trivial
theorem main.tw9561784451562097942 : True := trivial
theorem main.tw11251407683458634364 : True := trivial
theorem main.tw17477492558424962760 : True := trivial
theorem main.tw6880717277089553138 : True := trivial
theorem main.tw12252054271945606052 : True := trivial
theorem main.tw16922381011570985944 : True := trivial
theorem main.tw13113777628852026922 : True := trivial
theorem main.tw13260870731297125680 : True := trivial
theorem main.tw9272984997812220495 : True := trivial
theorem main.tw13995172100960836882 : True := trivial
theorem main.tw17725498274588495791 : True := trivial
theorem main.tw5665735395497279834 : True := trivial
theorem main.tw1178595665728414349 : True := trivial
theorem main.tw2110754180369666209 : True := trivial
theorem main.tw4839478117068044826 : True := trivial
theorem main.tw6164561884633627433 : True := trivial
theorem main.tw11595355409239048105 : True := trivial
theorem main.tw17201416709059790184 : True := trivial
theorem main.tw14106445559736802775 : True := trivial
theorem main.tw1054321117371714560 : True := trivial
theorem main.tw14793117695081215449 : True := trivial
theorem main.tw3557749057250611081 : True := trivial
theorem main.tw13676971244355772609 : True := trivial
theorem main.tw12927740378394474205 : True := trivial
theorem main.tw9557352009045844224 : True := trivial
theorem main.tw3454311308915712629 : True := trivial
theorem main.tw9069182735580402390 : True := trivial
theorem main.tw1130211791997205004 : True := trivial
theorem main.tw1980160206288974728 : True := trivial
theorem main.tw11374851513655246148 : True := trivial
theorem main.tw16656740534632174751 : True := trivial
theorem main.tw14722489848711283861 : True := trivial
theorem main.tw6910295442248876197 : True := trivial
theorem main.tw15928290008803537013 : True := trivial
theorem main.tw7173623326730630234 : True := trivial
theorem main.tw15616401959046598769 : True := trivial
theorem main.tw14646587721710459877 : True := trivial
theorem main.tw7273056430967151046 : True := trivial
theorem main.tw7691172733374981047 : True := trivial
theorem main.tw6222487380544312443 : True := trivial
theorem main.tw14788915703135433725 : True := trivial
theorem main.tw5240536507193477226 : True := trivial
theorem main.tw14672674291997333471 : True := trivial
theorem main.tw15734200111481486640 : True := trivial
theorem main.tw5309058905264134205 : True := trivial
theorem main.tw5532463470591059822 : True := trivial
theorem main.tw13180746182150919023 : True := trivial
theorem main.tw9670510015898674028 : True := trivial
theorem main.tw6418098437765475518 : True := trivial
theorem main.tw9189880136782149556 : True := trivial
theorem main.tw7875838824674609581 : True := trivial
theorem main.tw4072190877284726289 : True := trivial
theorem main.tw3905226178654972811 : True := trivial
theorem main.tw16952715711813285254 : True := trivial
theorem main.tw6657087868060814 : True := trivial
theorem main.tw5401703158475992631 : True := trivial
theorem main.tw11774690029378154688 : True := trivial
theorem main.tw1236483940969888574 : True := trivial
theorem main.tw16320215318167395912 : True := trivial
theorem main.tw1390771862084280389 : True := trivial
theorem main.tw13157206579259725088 : True := trivial
theorem main.tw17853915685595169931 : True := trivial
theorem main.tw12093223907033996073 : True := trivial
theorem main.tw10092017014551392330 : True := trivial
theorem main.tw2341703837736514645 : True := trivial
theorem main.tw3958507339218470045 : True := trivial
theorem main.tw13980345723018547825 : True := trivial
theorem main.tw3370190323706015969 : True := trivial
theorem main.tw8127475511531132179 : True := trivial
theorem main.tw11410963132546700228 : True := trivial
theorem main.tw1825674577582714796 : True := trivial
theorem main.tw13115594114764456945 : True := trivial
theorem main.tw14168887731352723522 : True := trivial
theorem main : PySem.Challenge.rw_sj0201_02.Holds := by
  w_on
  o_law
  k_head
  (case hw => w_witness2)
  intro w s₀ s₁ mg mb G Y fa o pm cd doc dV kV ho hd hcd hD hmg hg args vals as hpre hlay hrd hwl hlo
  have KX := kIn_of Y
  refine Ground.open G ?_
  intro T B D TE TW
  wrow_args hpre hlay hrd hwl hlo
  rename_i xs _ _ _ _ _ _ _ sc ws _ hL _ _ _ hI _ hx _
  have hdv : dV = .none := hD.pos.elim (fun h => h.2) fun h => absurd rfl h.1
  have hkv : kV = .none := hD.kw.elim (fun h => h.2) fun h => absurd rfl h.1
  subst hdv hkv
  refine enter_call (codeAny_mono ?_ (fun _ _ g => GoodW.toG g))
  refine law_walk (K := main.heap_1_39 w.params) (xs := xs) (ws := ws) KX T.g T.b T.nolimit T.builtins (by kernel_rfl) (by kernel_rfl) (by kernel_rfl) (by kernel_rfl) (by (unfold fnsAre; kernel_rfl)) (by kernel_rfl)
    ho hd hcd (by kernel_rfl) (by kernel_rfl) (by kernel_rfl) hL hI (by omega) fun h' tk hk => ?_
  exact ⟨.inl ⟨_, .bool true, [], rfl, raisesW_false (by wrow_none_raised), .bool true, post_true, fun _ => ⟨.nil, fun _ h => absurd h List.not_mem_nil⟩⟩, hk, rfl, hg⟩
end Mine
theorem PySem.Challenge.cw_sj0201_02_holds : PySem.Challenge.rw_sj0201_02.Holds := by
  exact Mine.main
