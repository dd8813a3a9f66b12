import PyProof.Rows.All
import Wide.All
import OpenK.AllK
import Wide.FinOn
import HandS.ForMost
import HandS.ForExc
import HandS.IsInst
import HandS.Deep
import HandS.Wide
import HandS.RevRange
import HandS.More
import HandS.TupLe
import HandS.ExcIs
import HandS.RaiseMore
import KE.KRevSl
import HandS.SortKw
import KE.KMinKey
import HandS.CallSlots
import HandS.Defaults
import HandS.Flow
import HandS.NoneIn
import KE.GoesMore
import KE.KExcIs
import HandS.Finally
import HandS.DictComp
import KE.DataMinMax
import KE.KEqDict
import HandS.ExcInit
import HandS.ExcValue
import PySem.Challenge.RW_kindfill_k13_refusals
set_option Elab.async false
set_option maxRecDepth 100000
set_option linter.all false
/-! Kf: a layer of readings over plain data. -/
namespace Kf
open PySem PySem.Spec L2
open PyProof.Rows hiding St

/-- plain data; scr is the script, ref an owned cell -/
inductive D where
  | non | bl (b : Bool) | int (i : Int) | str (x : Str) | tup (ds : List D) | lst (ds : List D) | ref (a : Addr) | ty (n : String) | scr (ns : List Int) | edic
  deriving Inhabited

/-- what an owned address holds -/
inductive Cell where
  | lst (ds : List D)
  | pool
  | dic (kvs : List (Key × D))
  | dicL (kvs : List (Key × D)) (o : HO)
  | exc (cls : Value) (fs : Option (List (Str × D)))
  | ins (C : Addr) (fs : List (Str × D))

abbrev Ow := Addr → Option Cell
def updO (O : Ow) (a : Addr) (c : Cell) : Ow := fun b => if b = a then some c else O b
theorem updO_same {O : Ow} {a : Addr} {c : Cell} : updO O a c a = some c := if_pos rfl
theorem updO_ne {O : Ow} {a b : Addr} {c : Cell} (h : b ≠ a) : updO O a c b = O b := if_neg h
theorem updO_updO {O : Ow} {a : Addr} {c d : Cell} : updO (updO O a c) a d = updO O a d := by
  funext b; unfold updO; split <;> rfl
theorem updO_self {O : Ow} {a : Addr} {c : Cell} (h : O a = some c) : updO O a c = O := by
  funext b; unfold updO; split
  · rename_i e; rw [e, h]
  · rfl
/-- without a cell -/
def delO (O : Ow) (a : Addr) : Ow := fun b => if b = a then none else O b
theorem delO_updO {O : Ow} {a : Addr} {c : Cell} (h : O a = none) : delO (updO O a c) a = O := by
  funext b; unfold delO updO; split
  · rename_i e; rw [e, h]
  · rfl

abbrev DEnv := List (Option D)
abbrev VD := D → Ow → Prop
abbrev FE := DEnv → Ow → VD → Prop
abbrev FT := DEnv → Ow → (Bool → Ow → Prop) → Prop
abbrev FA := DEnv → Ow → (List D → Ow → Prop) → Prop

section
variable (K : PySem.W.Frag) (F : Hp)
mutual
def Rep : D → V → Prop
  | .non, v => v = .non
  | .bl b, v => v = .bl b
  | .int i, v => v = .int i
  | .str x, v => v = .str x
  | .tup ds, v => ∃ a xs, v = .ref a ∧ SqT K F a xs ∧ RepAll ds xs
  | .lst ds, v => ∃ a xs, v = .ref a ∧ F a = some (.lst xs) ∧ RepAll ds xs
  | .ref a, v => v = .ref a
  | .ty n, v => v = .ty n
  | .scr ns, v => ∃ a, v = .ref a ∧ SqL K F a (ns.map V.int)
  | .edic, v => ∃ a, v = .ref a ∧ F a = some (.dK [])
def RepAll : List D → List V → Prop
  | [], vs => vs = []
  | d :: ds, vs => ∃ v r, vs = v :: r ∧ Rep d v ∧ RepAll ds r
end
end

theorem Same.seqT {K : PySem.W.Frag} {H H' : Hp} {a : Addr} {xs : List V} (e : Same H H') (h : SqT K H a xs) : SqT K H' a xs := by
  rcases h with (h | ⟨o, h⟩) | h
  · exact .inl (.inl (e _ _ h))
  · exact .inl (.inr ⟨o, e _ _ h⟩)
  · exact .inr h

section
variable {K : PySem.W.Frag} {F F' : Hp}
mutual
theorem Rep.mono (s : Same F F') : ∀ (d : D) (v : V), Rep K F d v → Rep K F' d v
  | .non, _, h => by simpa only [Rep] using h
  | .bl _, _, h => by simpa only [Rep] using h
  | .int _, _, h => by simpa only [Rep] using h
  | .str _, _, h => by simpa only [Rep] using h
  | .ref _, _, h => by simpa only [Rep] using h
  | .ty _, _, h => by simpa only [Rep] using h
  | .tup ds, _, h => by
    simp only [Rep] at h ⊢
    obtain ⟨a, xs, e, h1, h2⟩ := h
    exact ⟨a, xs, e, Same.seqT s h1, RepAll.mono s ds xs h2⟩
  | .lst ds, _, h => by
    simp only [Rep] at h ⊢
    obtain ⟨a, xs, e, h1, h2⟩ := h
    exact ⟨a, xs, e, s _ _ h1, RepAll.mono s ds xs h2⟩
  | .scr ns, _, h => by
    simp only [Rep] at h ⊢
    obtain ⟨a, e, h1⟩ := h
    exact ⟨a, e, s.seq h1⟩
  | .edic, _, h => by
    simp only [Rep] at h ⊢
    obtain ⟨a, e, h1⟩ := h
    exact ⟨a, e, s _ _ h1⟩
theorem RepAll.mono (s : Same F F') : ∀ (ds : List D) (vs : List V), RepAll K F ds vs → RepAll K F' ds vs
  | [], _, h => by simpa only [RepAll] using h
  | d :: ds, _, h => by
    simp only [RepAll] at h ⊢
    obtain ⟨v, r, e, h1, h2⟩ := h
    exact ⟨v, r, e, Rep.mono s d v h1, RepAll.mono s ds r h2⟩
end
theorem RepAll.length : ∀ {ds : List D} {vs : List V}, RepAll K F ds vs → ds.length = vs.length
  | [], _, h => by simp only [RepAll] at h; rw [h]; rfl
  | d :: ds, _, h => by
    simp only [RepAll] at h
    obtain ⟨v, r, rfl, _, h2⟩ := h
    rw [List.length_cons, List.length_cons, RepAll.length h2]
theorem RepAll.get : ∀ {ds : List D} {vs : List V} {i : Nat} {d : D}, RepAll K F ds vs → ds[i]? = some d → ∃ v, vs[i]? = some v ∧ Rep K F d v
  | [], _, _, _, h, e => by simp at e
  | d :: ds, _, i, _, h, e => by
    simp only [RepAll] at h
    obtain ⟨v, r, rfl, h1, h2⟩ := h
    cases i with
    | zero => simp at e; subst e; exact ⟨v, rfl, h1⟩
    | succ i => simp at e ⊢; exact RepAll.get h2 e
theorem RepAll.append : ∀ {ds es : List D} {vs ws : List V}, RepAll K F ds vs → RepAll K F es ws → RepAll K F (ds ++ es) (vs ++ ws)
  | [], _, _, _, h, q => by simp only [RepAll] at h; subst h; exact q
  | d :: ds, es, _, ws, h, q => by
    simp only [RepAll] at h
    obtain ⟨v, r, rfl, h1, h2⟩ := h
    rw [List.cons_append, List.cons_append]
    simp only [RepAll]
    exact ⟨v, r ++ ws, rfl, h1, RepAll.append h2 q⟩
theorem RepAll.nil : RepAll K F [] [] := by simp only [RepAll]
theorem RepAll.cons {d : D} {ds : List D} {v : V} {vs : List V} (h : Rep K F d v) (q : RepAll K F ds vs) : RepAll K F (d :: ds) (v :: vs) := by
  simp only [RepAll]; exact ⟨v, vs, rfl, h, q⟩
theorem RepAll.one {d : D} {v : V} (h : Rep K F d v) : RepAll K F [d] [v] := .cons h .nil
theorem RepAll.set {x : D} {y : V} (hx : Rep K F x y) : ∀ {ds : List D} {vs : List V} (i : Nat), RepAll K F ds vs → RepAll K F (ds.set i x) (vs.set i y)
  | [], _, _, h => by simp only [RepAll] at h; subst h; exact .nil
  | d :: ds, _, i, h => by
    simp only [RepAll] at h
    obtain ⟨v, r, rfl, h1, h2⟩ := h
    cases i with
    | zero => exact .cons hx h2
    | succ i => exact .cons h1 (RepAll.set hx i h2)
theorem RepAll.drop : ∀ {ds : List D} {vs : List V} (n : Nat), RepAll K F ds vs → RepAll K F (ds.drop n) (vs.drop n)
  | _, _, 0, h => h
  | [], _, n + 1, h => by simp only [RepAll] at h; subst h; exact .nil
  | d :: ds, _, n + 1, h => by
    simp only [RepAll] at h
    obtain ⟨v, r, rfl, h1, h2⟩ := h
    exact RepAll.drop n h2
theorem RepAll.take : ∀ {ds : List D} {vs : List V} (n : Nat), RepAll K F ds vs → RepAll K F (ds.take n) (vs.take n)
  | _, _, 0, h => .nil
  | [], _, n + 1, h => by simp only [RepAll] at h; subst h; exact .nil
  | d :: ds, _, n + 1, h => by
    simp only [RepAll] at h
    obtain ⟨v, r, rfl, h1, h2⟩ := h
    exact .cons h1 (RepAll.take n h2)
theorem RepAll.eraseIdx : ∀ {ds : List D} {vs : List V} (n : Nat), RepAll K F ds vs → RepAll K F (ds.eraseIdx n) (vs.eraseIdx n)
  | [], _, n, h => by simp only [RepAll] at h; subst h; exact .nil
  | d :: ds, _, n, h => by
    simp only [RepAll] at h
    obtain ⟨v, r, rfl, h1, h2⟩ := h
    cases n with
    | zero => exact h2
    | succ n => exact .cons h1 (RepAll.eraseIdx n h2)
theorem RepAll.reverse {ds : List D} {vs : List V} (h : RepAll K F ds vs) : RepAll K F ds.reverse vs.reverse := by
  induction ds generalizing vs with
  | nil => simp only [RepAll] at h; subst h; exact .nil
  | cons d ds ih =>
    simp only [RepAll] at h
    obtain ⟨v, r, rfl, h1, h2⟩ := h
    rw [List.reverse_cons, List.reverse_cons]
    exact .append (ih h2) (.one h1)
theorem RepAll.ints {vs : List V} : ∀ {ns : List Int}, RepAll K F (ns.map D.int) vs → vs = ns.map V.int := by
  intro ns h
  induction ns generalizing vs with
  | nil => rw [List.map_nil] at h; simpa only [RepAll, List.map_nil] using h
  | cons n ns ih =>
    rw [List.map_cons] at h
    simp only [RepAll, Rep] at h
    obtain ⟨v, r, rfl, rfl, h2⟩ := h
    rw [ih h2]; rfl
theorem RepAll.strs {vs : List V} : ∀ {ns : List Str}, RepAll K F (ns.map D.str) vs → vs = ns.map V.str := by
  intro ns h
  induction ns generalizing vs with
  | nil => rw [List.map_nil] at h; simpa only [RepAll, List.map_nil] using h
  | cons n ns ih =>
    rw [List.map_cons] at h
    simp only [RepAll, Rep] at h
    obtain ⟨v, r, rfl, rfl, h2⟩ := h
    rw [ih h2]; rfl
theorem RepAll.bls {vs : List V} : ∀ {ns : List Bool}, RepAll K F (ns.map D.bl) vs → vs = ns.map V.bl := by
  intro ns h
  induction ns generalizing vs with
  | nil => rw [List.map_nil] at h; simpa only [RepAll, List.map_nil] using h
  | cons n ns ih =>
    rw [List.map_cons] at h
    simp only [RepAll, Rep] at h
    obtain ⟨v, r, rfl, rfl, h2⟩ := h
    rw [ih h2]; rfl
theorem RepAll.of_ints : ∀ {ns : List Int}, RepAll K F (ns.map D.int) (ns.map V.int)
  | [] => .nil
  | n :: ns => .cons (by simp only [Rep]) RepAll.of_ints
theorem RepAll.of_strs : ∀ {ns : List Str}, RepAll K F (ns.map D.str) (ns.map V.str)
  | [] => .nil
  | n :: ns => .cons (by simp only [Rep]) RepAll.of_strs
end

/-! ### the ghost state -/
/-- the entries of a dict -/
def KvOk (K : PySem.W.Frag) (F : Hp) : List (Key × D) → List (Key × V) → Prop := Paired fun p q => p.1 = q.1 ∧ Rep K F p.2 q.2
theorem KvOk.mono {K : PySem.W.Frag} {F F' : Hp} (s : Same F F') {kvs : List (Key × D)} {vs : List (Key × V)} (h : KvOk K F kvs vs) : KvOk K F' kvs vs := Paired.mapP h fun _ _ z => ⟨z.1, z.2.mono s⟩
/-- the fields of an instance -/
def FsOk (K : PySem.W.Frag) (F : Hp) : List (Str × D) → List (Str × V) → Prop := Paired fun p q => p.1 = q.1 ∧ Rep K F p.2 q.2
theorem FsOk.mono {K : PySem.W.Frag} {F F' : Hp} (s : Same F F') {fs : List (Str × D)} {fv : List (Str × V)} (h : FsOk K F fs fv) : FsOk K F' fs fv := Paired.mapP h fun _ _ z => ⟨z.1, z.2.mono s⟩
/-- an exception's object, held as a value -/
def IsX (a : Addr) (cls : Value) (d : Option Addr) (o : HO) : Prop := ∃ φ, o = .ext φ ∧ ∀ h, φ h → ∃ oe vs, h.get? a = some oe ∧ Zc cls d oe ∧ oe.data = .fields vs
def XdR (K : PySem.W.Frag) (F : Hp) : Option (List (Str × D)) → Option Addr → Prop
  | none, dd => dd = none
  | some fs, dd => ∃ dx fv, dd = some dx ∧ F dx = some (.xd fv) ∧ FsOk K F fs fv
theorem XdR.mono {K : PySem.W.Frag} {F F' : Hp} (s : Same F F') {fs : Option (List (Str × D))} {dd : Option Addr} (h : XdR K F fs dd) : XdR K F' fs dd := by
  cases fs with
  | none => exact h
  | some fs => obtain ⟨dx, fv, e, h1, h2⟩ := h; exact ⟨dx, fv, e, s _ _ h1, h2.mono s⟩
def CellOk (K : PySem.W.Frag) (F H : Hp) (a : Addr) : Cell → Prop
  | .lst ds => ∃ vs, H a = some (.lst vs) ∧ RepAll K F ds vs
  | .pool => ∃ x y : Int, H a = some (.lst [.int x, .int y]) ∧ 0 ≤ x ∧ 0 ≤ y ∧ y < 2147483647
  | .dic kvs => ∃ vs : List (Key × V), H a = some (.dK vs) ∧ KvOk K F kvs vs
  | .dicL kvs o => H a = some o ∧ ∃ (od : Obj) (vs : List (Key × V)), o = .frz od (.dK vs) ∧ KvOk K F kvs vs
  | .exc cls fs => ∃ o d, H a = some o ∧ IsX a cls d o ∧ XdR K F fs d
  | .ins C fs => ∃ dx vs, H a = some (.ins C dx vs) ∧ FsOk K F fs vs
/-- what is known of F and P all the while: it bears more of both -/
structure MX where
  rel : Hp → Hp → Prop
  mono : ∀ {F F' P P' : Hp}, rel F P → Same F F' → Same P P' → rel F' P'
def MT : MX := ⟨fun _ _ => True, fun _ _ _ => trivial⟩
variable {M : MX}
/-- F: what never changes; O: what is owned; P: what stands aside -/
structure Gd (M : MX) (K : PySem.W.Frag) (F : Hp) (O : Ow) (P : Hp) (H : Hp) : Prop where
  fz : Same F H
  ow : ∀ a c, O a = some c → F a = none ∧ P a = none ∧ CellOk K F H a c
  as : ∀ a o, P a = some o → F a = none ∧ H a = some o
  rl : M.rel F P

theorem CellOk.some {K : PySem.W.Frag} {F H : Hp} {a : Addr} {c : Cell} (h : CellOk K F H a c) : ∃ o, H a = some o := by
  cases c with
  | lst ds => obtain ⟨vs, h, _⟩ := h; exact ⟨_, h⟩
  | pool => obtain ⟨x, y, h, _⟩ := h; exact ⟨_, h⟩
  | dic kvs => obtain ⟨vs, h, _⟩ := h; exact ⟨_, h⟩
  | dicL kvs o => exact ⟨_, h.1⟩
  | exc cls fs => obtain ⟨o, d, h, _⟩ := h; exact ⟨_, h⟩
  | ins C fs => obtain ⟨dx, vs, h, _⟩ := h; exact ⟨_, h⟩
theorem CellOk.mono {K : PySem.W.Frag} {F F' H H' : Hp} {a : Addr} {c : Cell} (h : CellOk K F H a c) (s : Same F F') (e : H' a = H a) : CellOk K F' H' a c := by
  cases c with
  | lst ds => obtain ⟨vs, h, r⟩ := h; exact ⟨vs, e.trans h, r.mono s⟩
  | pool => obtain ⟨x, y, h, r⟩ := h; exact ⟨x, y, e.trans h, r⟩
  | dic kvs => obtain ⟨vs, h, r⟩ := h; exact ⟨vs, e.trans h, r.mono s⟩
  | dicL kvs o => obtain ⟨h, od, vs, r1, r2⟩ := h; exact ⟨e.trans h, od, vs, r1, r2.mono s⟩
  | exc cls fs => obtain ⟨o, d, h, r1, r2⟩ := h; exact ⟨o, d, e.trans h, r1, r2.mono s⟩
  | ins C fs => obtain ⟨dx, vs, h, r⟩ := h; exact ⟨dx, vs, e.trans h, r.mono s⟩

section
variable {K : PySem.W.Frag} {F P H : Hp} {O : Ow} {p : Addr} {o : HO}
theorem Gd.freeF (g : Gd M K F O P H) (h : H p = none) : F p = none := g.fz.free h
theorem Gd.freeO (g : Gd M K F O P H) (h : H p = none) : O p = none := by
  cases e : O p with
  | none => rfl
  | some c =>
    obtain ⟨u, q⟩ := (g.ow p c e).2.2.some
    rw [h] at q; cases q
theorem Gd.freeP (g : Gd M K F O P H) (h : H p = none) : P p = none := by
  cases e : P p with
  | none => rfl
  | some c =>
    have q := (g.as p c e).2
    rw [h] at q; cases q
theorem same_upd {H : Hp} {p : Addr} {o : HO} (h : H p = none) : Same H (upd H p o) := fun b x e => by
  rw [upd_ne (ne_of_none e h)]; exact e
theorem Same.upd2 {F H : Hp} {p : Addr} {o : HO} (s : Same F H) : Same (upd F p o) (upd H p o) := fun b x e => by
  unfold upd at e ⊢
  split
  · rename_i q; rw [if_pos q] at e; exact e
  · rename_i q; rw [if_neg q] at e; exact s b x e
/-- a new thing that never changes -/
theorem Gd.new (g : Gd M K F O P H) (h : H p = none) : Gd M K (upd F p o) O P (upd H p o) := by
  have hF := g.freeF h
  have hO := g.freeO h
  have hP := g.freeP h
  refine ⟨Same.upd2 g.fz, fun a c e => ?_, fun a u e => ?_, M.mono g.rl (same_upd hF) (Same.refl _)⟩
  · have ne : a ≠ p := fun q => by rw [q, hO] at e; cases e
    obtain ⟨h1, h2, h3⟩ := g.ow a c e
    exact ⟨(upd_ne ne).trans h1, h2, h3.mono (same_upd hF) (upd_ne ne)⟩
  · have ne : a ≠ p := fun q => by rw [q, hP] at e; cases e
    obtain ⟨h1, h2⟩ := g.as a u e
    exact ⟨(upd_ne ne).trans h1, (upd_ne ne).trans h2⟩
/-- a thing of the heap that nothing speaks of -/
theorem Gd.skip (g : Gd M K F O P H) (h : H p = none) : Gd M K F O P (upd H p o) := by
  have hO := g.freeO h
  have hP := g.freeP h
  refine ⟨fun b x e => (same_upd h) b x (g.fz b x e), fun a c e => ?_, fun a u e => ?_, g.rl⟩
  · have ne : a ≠ p := fun q => by rw [q, hO] at e; cases e
    obtain ⟨h1, h2, h3⟩ := g.ow a c e
    exact ⟨h1, h2, h3.mono (Same.refl _) (upd_ne ne)⟩
  · have ne : a ≠ p := fun q => by rw [q, hP] at e; cases e
    obtain ⟨h1, h2⟩ := g.as a u e
    exact ⟨h1, (upd_ne ne).trans h2⟩
/-- a new owned cell -/
theorem Gd.newO (g : Gd M K F O P H) (h : H p = none) {c : Cell} (hc : CellOk K F (upd H p o) p c) : Gd M K F (updO O p c) P (upd H p o) := by
  have hF := g.freeF h
  have g' := g.skip (o := o) h
  refine ⟨g'.fz, fun a d e => ?_, g'.as, g'.rl⟩
  by_cases q : a = p
  · subst q
    rw [updO_same] at e; cases e
    exact ⟨hF, g.freeP h, hc⟩
  · rw [updO_ne q] at e
    exact g'.ow a d e
/-- an owned cell changes -/
theorem Gd.setO (g : Gd M K F O P H) {c0 : Cell} (h : O p = some c0) {c : Cell} (hc : CellOk K F (upd H p o) p c) : Gd M K F (updO O p c) P (upd H p o) := by
  obtain ⟨hF, hP, _⟩ := g.ow p c0 h
  refine ⟨fun b x e => ?_, fun a d e => ?_, fun a u e => ?_, g.rl⟩
  · have ne : b ≠ p := fun q => by rw [q, hF] at e; cases e
    rw [upd_ne ne]; exact g.fz b x e
  · by_cases q : a = p
    · subst q
      rw [updO_same] at e; cases e
      exact ⟨hF, hP, hc⟩
    · rw [updO_ne q] at e
      obtain ⟨h1, h2, h3⟩ := g.ow a d e
      exact ⟨h1, h2, h3.mono (Same.refl _) (upd_ne q)⟩
  · have ne : a ≠ p := fun q => by rw [q, hP] at e; cases e
    obtain ⟨h1, h2⟩ := g.as a u e
    exact ⟨h1, (upd_ne ne).trans h2⟩
/-- an owned cell's word is another one of the same thing -/
theorem Gd.retell (g : Gd M K F O P H) {c0 : Cell} (h : O p = some c0) {c : Cell} (hc : CellOk K F H p c) : Gd M K F (updO O p c) P H := by
  obtain ⟨hF, hP, _⟩ := g.ow p c0 h
  refine ⟨g.fz, fun a d e => ?_, g.as, g.rl⟩
  by_cases q : a = p
  · subst q
    rw [updO_same] at e; cases e
    exact ⟨hF, hP, hc⟩
  · rw [updO_ne q] at e
    exact g.ow a d e
/-- an owned list is owned no more: it never changes from now on -/
theorem Gd.freeze (g : Gd M K F O P H) {ds : List D} (h : O p = some (.lst ds)) : ∃ F', Same F F' ∧ Gd M K F' (delO O p) P H ∧ Rep K F' (.lst ds) (.ref p) := by
  obtain ⟨hF, hP, vs, hH, hr⟩ := g.ow p _ h
  have s : Same F (upd F p (.lst vs)) := same_upd hF
  refine ⟨upd F p (.lst vs), s, ⟨fun b x e => ?_, fun a c e => ?_, fun a u e => ?_, M.mono g.rl s (Same.refl _)⟩, ?_⟩
  · by_cases q : b = p
    · subst q; rw [upd_same] at e; cases e; exact hH
    · rw [upd_ne q] at e; exact g.fz b x e
  · unfold delO at e
    by_cases q : a = p
    · rw [if_pos q] at e; cases e
    · rw [if_neg q] at e
      obtain ⟨h1, h2, h3⟩ := g.ow a c e
      exact ⟨(upd_ne q).trans h1, h2, h3.mono s rfl⟩
  · have q : a ≠ p := fun z => by rw [z, hP] at e; cases e
    obtain ⟨h1, h2⟩ := g.as a u e
    exact ⟨(upd_ne q).trans h1, h2⟩
  · simp only [Rep]
    exact ⟨p, vs, rfl, upd_same, hr.mono s⟩
/-- an owned cell is forgotten -/
theorem Gd.drop (g : Gd M K F O P H) : Gd M K F (delO O p) P H := by
  refine ⟨g.fz, fun a c e => ?_, g.as, g.rl⟩
  unfold delO at e
  by_cases q : a = p
  · rw [if_pos q] at e; cases e
  · rw [if_neg q] at e; exact g.ow a c e
end

/-! ### environments -/
def EnvOk (K : PySem.W.Frag) (F : Hp) (ρ : DEnv) (σ : St) : Prop := ρ.length = σ.length ∧ ∀ (i : Nat) (d : D), ρ[i]? = some (some d) → ∃ v, σ[i]? = some (some v) ∧ Rep K F d v
section
variable {K : PySem.W.Frag} {F F' : Hp} {ρ : DEnv} {σ : St}
theorem EnvOk.mono (h : EnvOk K F ρ σ) (s : Same F F') : EnvOk K F' ρ σ := ⟨h.1, fun i d e => let ⟨v, q, r⟩ := h.2 i d e; ⟨v, q, r.mono s⟩⟩
theorem EnvOk.set (h : EnvOk K F ρ σ) {d : D} {v : V} (r : Rep K F d v) (i : Nat) : EnvOk K F (ρ.set i (some d)) (σ.set i (some v)) := by
  refine ⟨by rw [List.length_set, List.length_set, h.1], fun j e q => ?_⟩
  by_cases c : i = j
  · subst c
    by_cases hl : i < ρ.length
    · rw [List.getElem?_set_self hl] at q
      cases q
      exact ⟨v, by rw [List.getElem?_set_self (h.1 ▸ hl)], r⟩
    · rw [List.getElem?_eq_none (by rw [List.length_set]; omega)] at q; cases q
  · rw [List.getElem?_set_ne c] at q ⊢
    exact h.2 j e q
theorem EnvOk.wipe (h : EnvOk K F ρ σ) (i : Nat) : EnvOk K F (ρ.set i none) (σ.set i none) := by
  refine ⟨by rw [List.length_set, List.length_set, h.1], fun j e q => ?_⟩
  by_cases c : i = j
  · subst c
    by_cases hl : i < ρ.length
    · rw [List.getElem?_set_self hl] at q; cases q
    · rw [List.getElem?_eq_none (by rw [List.length_set]; omega)] at q; cases q
  · rw [List.getElem?_set_ne c] at q ⊢
    exact h.2 j e q
theorem envOk_start : ∀ {ds : List D} {vs : List V} (n : Nat), RepAll K F ds vs → EnvOk K F (ds.map some ++ List.replicate n none) (vs.map some ++ List.replicate n none) := by
  intro ds vs n h
  have hl := h.length
  refine ⟨by simp [hl], fun i d e => ?_⟩
  by_cases c : i < ds.length
  · rw [List.getElem?_append_left (by simpa using c), List.getElem?_map] at e
    obtain ⟨d', e1, e2⟩ := Option.map_eq_some_iff.mp e
    cases e2
    obtain ⟨v, h1, h2⟩ := h.get e1
    refine ⟨v, ?_, h2⟩
    rw [List.getElem?_append_left (by simpa [← hl] using c), List.getElem?_map, h1]; rfl
  · rw [List.getElem?_append_right (by simpa using c)] at e
    rw [List.getElem?_replicate] at e
    split at e <;> cases e
end

/-! ### readings over data, lifted -/
def PostE (M : MX) (K : PySem.W.Frag) (F P : Hp) (R : VD) (Q : VK) : Prop := ∀ d O' F' H' v, R d O' → Same F F' → Gd M K F' O' P H' → Rep K F' d v → Q v H'
def PostT (M : MX) (K : PySem.W.Frag) (F P : Hp) (R : Bool → Ow → Prop) (Q : Bool → Hp → Prop) : Prop := ∀ b O' F' H', R b O' → Same F F' → Gd M K F' O' P H' → Q b H'
def PostA (M : MX) (K : PySem.W.Frag) (F P : Hp) (R : List D → Ow → Prop) (Q : List V → Hp → Prop) : Prop := ∀ ds O' F' H' vs, R ds O' → Same F F' → Gd M K F' O' P H' → RepAll K F' ds vs → Q vs H'
def liftE (M : MX) (K : PySem.W.Frag) (f : FE) : TE := fun σ H Q => ∃ F O P ρ R, Gd M K F O P H ∧ EnvOk K F ρ σ ∧ f ρ O R ∧ PostE M K F P R Q
def liftT (M : MX) (K : PySem.W.Frag) (f : FT) : TT := fun σ H Q => ∃ F O P ρ R, Gd M K F O P H ∧ EnvOk K F ρ σ ∧ f ρ O R ∧ PostT M K F P R Q
def liftA (M : MX) (K : PySem.W.Frag) (f : FA) : TA := fun σ H Q => ∃ F O P ρ R, Gd M K F O P H ∧ EnvOk K F ρ σ ∧ f ρ O R ∧ PostA M K F P R Q
abbrev DE (M : MX) (X : Cx) (e : Expr) (f : FE) : Prop := PE X e (liftE M X.K f)
abbrev DT (M : MX) (X : Cx) (e : Expr) (f : FT) : Prop := PT X e (liftT M X.K f)
abbrev DA (M : MX) (X : Cx) (es : List Expr) (f : FA) : Prop := PA X es (liftA M X.K f)

theorem peMono {X : Cx} {e : Expr} {t t' : TE} (h : PE X e t) (imp : ∀ σ H Q, t' σ H Q → t σ H Q) : PE X e t' := ⟨fun pins s σ H Q I q => h.run pins s σ H Q I (imp σ H Q q)⟩
theorem ptMono {X : Cx} {e : Expr} {t t' : TT} (h : PT X e t) (imp : ∀ σ H Q, t' σ H Q → t σ H Q) : PT X e t' := ⟨fun pins s σ H Q I q => h.run pins s σ H Q I (imp σ H Q q)⟩
theorem pwMono {X : Cx} {e : Expr} {t t' : TT} (h : PW X e t) (imp : ∀ σ H Q, t' σ H Q → t σ H Q) : PW X e t' := ⟨fun whole pins s σ H Q I q => h.run whole pins s σ H Q I (imp σ H Q q)⟩
theorem paMono {X : Cx} {es : List Expr} {t t' : TA} (h : PA X es t) (imp : ∀ σ H Q, t' σ H Q → t σ H Q) : PA X es t' := ⟨fun pos pins s σ H Q I q => h.run pos pins s σ H Q I (imp σ H Q q)⟩
theorem psMono {X : Cx} {st : Stmt} {t t' : TS} (h : PS X st t) (imp : ∀ D σ H, t' D σ H → t D σ H) : PS X st t' := ⟨fun pins s σ H D I q => h.run pins s σ H D I (imp D σ H q)⟩
theorem pssMono {X : Cx} {st : List Stmt} {t t' : TS} (h : PSs X st t) (imp : ∀ D σ H, t' D σ H → t D σ H) : PSs X st t' := ⟨fun pins s σ H D I q => h.run pins s σ H D I (imp D σ H q)⟩

section
variable {X : Cx} {a b c e : Expr} {es : List Expr} {fa fb fc : FE} {pos : Pos}

/-! ### names and constants -/
def envGet (o : Option (Option D)) (O : Ow) (Q : VD) : Prop := match o with
  | some (some d) => Q d O
  | _ => False
theorem envGet_s {d : D} {O : Ow} {Q : VD} : envGet (some (some d)) O Q = Q d O := rfl
def fVar (i : Nat) : FE := fun ρ O Q => envGet ρ[i]? O Q
def fC (d : D) : FE := fun _ O Q => Q d O
theorem de_var (i : Nat) {x : Str} (hN : X.N[i]? = some x := by rfl) (hv : Vis X.env.scope x := by first | exact Or.inl rfl | exact Or.inr (Or.inl rfl) | exact Or.inr (Or.inr rfl)) (hd : (x == ("__debug__" : Str)) = false := by decide)
    (hcd : (x == ("__classdict__" : Str)) = false := by decide) : DE M X (.Name x pos) (fVar i) := by
  refine peMono (pe_var hN hv hd hcd) fun σ H Q h => ?_
  obtain ⟨F, O, P, ρ, R, g, en, q, po⟩ := h
  unfold fVar envGet at q
  split at q
  · rename_i d e
    obtain ⟨v, e', r⟩ := en.2 i d e
    exact ⟨v, e', po d O F H v q (Same.refl _) g r⟩
  · exact q.elim
/-- a constant: what is the same everywhere -/
theorem de_const {t : TE} {d : D} {v : V} (h : PE X e t) (ht : ∀ σ H Q, Q v H → t σ H Q) (hr : ∀ F, Rep X.K F d v) : DE M X e (fC d) := by
  refine peMono h fun σ H Q h => ?_
  obtain ⟨F, O, P, ρ, R, g, en, q, po⟩ := h
  exact ht σ H Q (po d O F H v q (Same.refl _) g (hr F))
theorem de_int {i : Int} {j : Nat} : DE M X (.Constant (.int i) j pos) (fC (.int i)) := de_const pe_int (fun _ _ _ q => q) fun _ => by simp only [Rep]
theorem de_bl {i : Bool} {j : Nat} : DE M X (.Constant (.bool i) j pos) (fC (.bl i)) := de_const pe_bl (fun _ _ _ q => q) fun _ => by simp only [Rep]
theorem de_non {j : Nat} : DE M X (.Constant .none j pos) (fC .non) := de_const pe_non (fun _ _ _ q => q) fun _ => by simp only [Rep]
theorem de_str {x : Str} {j : Nat} : DE M X (.Constant (.str x) j pos) (fC (.str x)) := de_const pe_str (fun _ _ _ q => q) fun _ => by simp only [Rep]
theorem de_glob {x : Str} {d : D} {v : V} {u : Value} (hg : Gl X x) (hm : X.mg x = some u) (r : RelV v u) (hr : ∀ F, Rep X.K F d v) (hd : (x == ("__debug__" : Str)) = false := by decide) : DE M X (.Name x pos) (fC d) :=
  de_const (pe_glob hg hm r hd) (fun _ _ _ q => q) hr
theorem de_bltn {x : Str} {d : D} {v : V} {u : Value} (hg : Gl X x) (hm : X.mg x = none) (hv : bootBuiltins x = some u) (r : RelV v u) (hr : ∀ F, Rep X.K F d v) (hn : x ≠ "__name__" := by decide) (hd : (x == ("__debug__" : Str)) = false := by decide) : DE M X (.Name x pos) (fC d) :=
  de_const (pe_bltn hg hm hv r hn hd) (fun _ _ _ q => q) hr

/-! ### operators -/
abbrev R2D := D → D → Ow → VD → Prop
abbrev R1D := D → Ow → VD → Prop
def liftR2 (M : MX) (K : PySem.W.Frag) (r : R2D) : R2 := fun x y H Q => ∃ F O P dx dy R, Gd M K F O P H ∧ Rep K F dx x ∧ Rep K F dy y ∧ r dx dy O R ∧ PostE M K F P R Q
def liftR1 (M : MX) (K : PySem.W.Frag) (r : R1D) : V → Hp → VK → Prop := fun x H Q => ∃ F O P dx R, Gd M K F O P H ∧ Rep K F dx x ∧ r dx O R ∧ PostE M K F P R Q
def liftRA (M : MX) (K : PySem.W.Frag) (r : List D → Ow → VD → Prop) : List V → Hp → VK → Prop := fun xs H Q => ∃ F O P ds R, Gd M K F O P H ∧ RepAll K F ds xs ∧ r ds O R ∧ PostE M K F P R Q
def fOp (r : R2D) (fa fb : FE) : FE := fun ρ O Q => fa ρ O fun x O1 => fb ρ O1 fun y O2 => r x y O2 Q
theorem fOp_lift {r : R2D} : ∀ σ H Q, liftE M X.K (fOp r fa fb) σ H Q → tOp (liftR2 M X.K r) (liftE M X.K fa) (liftE M X.K fb) σ H Q := by
  intro σ H Q h
  obtain ⟨F, O, P, ρ, R, g, en, q, po⟩ := h
  refine ⟨F, O, P, ρ, _, g, en, q, fun x O1 F1 H1 v q1 s1 g1 r1 => ?_⟩
  refine ⟨F1, O1, P, ρ, _, g1, en.mono s1, q1, fun y O2 F2 H2 w q2 s2 g2 r2 => ?_⟩
  exact ⟨F2, O2, P, x, y, R, g2, r1.mono s2, r2, q2, fun d O' F' H' z q3 s3 g3 r3 => po d O' F' H' z q3 (s1.trans (s2.trans s3)) g3 r3⟩
abbrev OpD (M : MX) (X : Cx) (f : Value → Value → Sem Value) (r : R2D) : Prop := OpR X f (liftR2 M X.K r)
theorem de_op {op : Operator} {r : R2D} (ho : OpD M X (binaryOp op) r) (ha : DE M X a fa) (hb : DE M X b fb) : DE M X (.BinOp a op b pos) (fOp r fa fb) := peMono (pe_op ho ha hb) fOp_lift
theorem de_cmp {op : CmpOp} {r : R2D} (ho : OpD M X (compareOp op) r) (ha : DE M X a fa) (hb : DE M X b fb) (hm : behindInMarks op b = false) : DE M X (.Compare a [op] [b] pos) (fOp r fa fb) := peMono (pe_cmpR ho ha hb hm) fOp_lift
/-- a value as a test: it must be a bool -/
def fTest (f : FE) : FT := fun ρ O Q => f ρ O fun d O1 => ∃ k, d = .bl k ∧ Q k O1
theorem tTest_lift {f : FE} {t : TE} (hl : ∀ σ H Q, liftE M X.K f σ H Q → t σ H Q) : ∀ σ H Q, liftT M X.K (fTest f) σ H Q → tTest t σ H Q := by
  intro σ H Q h
  obtain ⟨F, O, P, ρ, R, g, en, q, po⟩ := h
  refine hl σ H _ ⟨F, O, P, ρ, _, g, en, q, fun d O' F' H' v q1 s1 g1 r1 => ?_⟩
  obtain ⟨k, rfl, q2⟩ := q1
  simp only [Rep] at r1
  exact ⟨k, r1, po k O' F' H' q2 s1 g1⟩
theorem dt_cmp {op : CmpOp} {r : R2D} (ho : OpD M X (compareOp op) r) (ha : DE M X a fa) (hb : DE M X b fb) (hm : behindInMarks op b = false) : DT M X (.Compare a [op] [b] pos) (fTest (fOp r fa fb)) :=
  ptMono (pt_cmpR ho ha hb hm) (tTest_lift fOp_lift)
theorem dt_val (h : DE M X e fa) (he : ∀ whole, isTrue e X.env whole = (do let v ← whole; standAt e.pos; holding [v] (truthy v)) := by intro _; rfl) : DT M X e (fTest fa) :=
  ptMono (pt_val h he) (tTest_lift fun _ _ _ q => q)
/-- a op1 b op2 c -/
def fChain (r r' : R2D) (fa fb fc : FE) : FE := fun ρ O Q => fa ρ O fun x O1 => fb ρ O1 fun y O2 => r x y O2 fun z O3 => ∃ k, z = .bl k ∧ (if k = true then fc ρ O3 fun w O4 => r' y w O4 Q else Q (.bl false) O3)
theorem fChain_lift {r r' : R2D} : ∀ σ H Q, liftE M X.K (fChain r r' fa fb fc) σ H Q → tChain (liftR2 M X.K r) (liftR2 M X.K r') (liftE M X.K fa) (liftE M X.K fb) (liftE M X.K fc) σ H Q := by
  intro σ H Q h
  obtain ⟨F, O, P, ρ, R, g, en, q, po⟩ := h
  refine ⟨F, O, P, ρ, _, g, en, q, fun x O1 F1 H1 v q1 s1 g1 r1 => ?_⟩
  refine ⟨F1, O1, P, ρ, _, g1, en.mono s1, q1, fun y O2 F2 H2 w q2 s2 g2 r2 => ?_⟩
  refine ⟨F2, O2, P, x, y, _, g2, r1.mono s2, r2, q2, fun d O3 F3 H3 z q3 s3 g3 r3 => ?_⟩
  obtain ⟨k, rfl, q4⟩ := q3
  simp only [Rep] at r3
  refine ⟨k, r3, ?_⟩
  cases k with
  | true =>
    rw [if_pos rfl] at q4 ⊢
    refine ⟨F3, O3, P, ρ, _, g3, en.mono (s1.trans (s2.trans s3)), q4, fun w2 O4 F4 H4 z q5 s4 g4 r4 => ?_⟩
    exact ⟨F4, O4, P, y, w2, R, g4, r2.mono (s3.trans s4), r4, q5, fun d O' F' H' z q6 s5 g5 r5 => po d O' F' H' z q6 (s1.trans (s2.trans (s3.trans (s4.trans s5)))) g5 r5⟩
  | false =>
    rw [if_neg Bool.false_ne_true] at q4 ⊢
    exact po _ O3 F3 H3 _ q4 (s1.trans (s2.trans s3)) g3 (by simp only [Rep])
theorem de_chain {op op' : CmpOp} {r r' : R2D} (ho : OpD M X (compareOp op) r) (ho' : OpD M X (compareOp op') r') (ha : DE M X a fa) (hb : DE M X b fb) (hc : DE M X c fc)
    (hm : lastMarks [op, op'] [b, c] = false := by with_unfolding_all rfl) : DE M X (.Compare a [op, op'] [b, c] pos) (fChain r r' fa fb fc) := peMono (pe_chain ho ho' ha hb hc hm) fChain_lift
theorem dt_chain {op op' : CmpOp} {r r' : R2D} (ho : OpD M X (compareOp op) r) (ho' : OpD M X (compareOp op') r') (ha : DE M X a fa) (hb : DE M X b fb) (hc : DE M X c fc)
    (hm : lastMarks [op, op'] [b, c] = false := by with_unfolding_all rfl) : DT M X (.Compare a [op, op'] [b, c] pos) (fTest (fChain r r' fa fb fc)) := ptMono (pt_chain ho ho' ha hb hc hm) (tTest_lift fChain_lift)
/-! ### and, or, not -/
variable {tA tB' : FT} {rest : List Expr}
def fAnd (t u : FT) : FT := fun ρ O Q => t ρ O fun c O1 => if c = true then u ρ O1 Q else Q false O1
def fOr (t u : FT) : FT := fun ρ O Q => t ρ O fun c O1 => if c = true then Q true O1 else u ρ O1 Q
def fNot (t : FT) : FT := fun ρ O Q => t ρ O fun c O1 => Q (!c) O1
abbrev DW (M : MX) (X : Cx) (e : Expr) (f : FT) : Prop := PW X e (liftT M X.K f)
theorem fAnd_lift : ∀ σ H Q, liftT M X.K (fAnd tA tB') σ H Q → tAnd (liftT M X.K tA) (liftT M X.K tB') σ H Q := by
  intro σ H Q h
  obtain ⟨F, O, P, ρ, R, g, en, q, po⟩ := h
  refine ⟨F, O, P, ρ, _, g, en, q, fun k O1 F1 H1 q1 s1 g1 => ?_⟩
  cases k with
  | true =>
    rw [if_pos rfl] at q1 ⊢
    exact ⟨F1, O1, P, ρ, R, g1, en.mono s1, q1, fun b O' F' H' q2 s2 g2 => po b O' F' H' q2 (s1.trans s2) g2⟩
  | false =>
    rw [if_neg Bool.false_ne_true] at q1 ⊢
    exact po _ O1 F1 H1 q1 s1 g1
theorem fOr_lift : ∀ σ H Q, liftT M X.K (fOr tA tB') σ H Q → tOr (liftT M X.K tA) (liftT M X.K tB') σ H Q := by
  intro σ H Q h
  obtain ⟨F, O, P, ρ, R, g, en, q, po⟩ := h
  refine ⟨F, O, P, ρ, _, g, en, q, fun k O1 F1 H1 q1 s1 g1 => ?_⟩
  cases k with
  | false =>
    rw [if_neg Bool.false_ne_true] at q1 ⊢
    exact ⟨F1, O1, P, ρ, R, g1, en.mono s1, q1, fun b O' F' H' q2 s2 g2 => po b O' F' H' q2 (s1.trans s2) g2⟩
  | true =>
    rw [if_pos rfl] at q1 ⊢
    exact po _ O1 F1 H1 q1 s1 g1
theorem dw_and1 (ha : DT M X a tA) : DW M X (.BoolOp .And [a] pos) tA := pw_and1 ha
theorem dw_or1 (ha : DT M X a tA) : DW M X (.BoolOp .Or [a] pos) tA := pw_or1 ha
theorem dw_and (ha : DT M X a tA) (hb : DW M X (.BoolOp .And (b :: rest) pos) tB') : DW M X (.BoolOp .And (a :: b :: rest) pos) (fAnd tA tB') := pwMono (pw_and ha hb) fAnd_lift
theorem dw_or (ha : DT M X a tA) (hb : DW M X (.BoolOp .Or (b :: rest) pos) tB') : DW M X (.BoolOp .Or (a :: b :: rest) pos) (fOr tA tB') := pwMono (pw_or ha hb) fOr_lift
theorem dt_of (h : DW M X e tA) : DT M X e tA := h.pt
theorem dt_not (ha : DT M X a tA) : DT M X (.UnaryOp .Not a pos) (fNot tA) := by
  refine ptMono (pt_not ha) fun σ H Q h => ?_
  obtain ⟨F, O, P, ρ, R, g, en, q, po⟩ := h
  exact ⟨F, O, P, ρ, _, g, en, q, fun k O1 F1 H1 q1 s1 g1 => po _ O1 F1 H1 q1 s1 g1⟩
/-- .. as values (bools) -/
def fAndV (fa fb : FE) : FE := fun ρ O Q => fa ρ O fun x O1 => ∃ c, x = .bl c ∧ if c = true then fb ρ O1 Q else Q (.bl false) O1
def fOrV (fa fb : FE) : FE := fun ρ O Q => fa ρ O fun x O1 => ∃ c, x = .bl c ∧ if c = true then Q (.bl true) O1 else fb ρ O1 Q
def fNotV (fa : FE) : FE := fun ρ O Q => fa ρ O fun x O1 => ∃ c, x = .bl c ∧ Q (.bl (!c)) O1
theorem de_one {op} (h : DE M X a fa) : DE M X (.BoolOp op [a] pos) fa := pe_one h
theorem de_and (ha : DE M X a fa) (hb : DE M X (.BoolOp .And (b :: rest) pos) fb) : DE M X (.BoolOp .And (a :: b :: rest) pos) (fAndV fa fb) := by
  refine peMono (pe_and ha hb) fun σ H Q h => ?_
  obtain ⟨F, O, P, ρ, R, g, en, q, po⟩ := h
  refine ⟨F, O, P, ρ, _, g, en, q, fun k O1 F1 H1 v q1 s1 g1 r1 => ?_⟩
  obtain ⟨c, rfl, q1⟩ := q1
  simp only [Rep] at r1
  refine ⟨c, r1, ?_⟩
  cases c with
  | true =>
    rw [if_pos rfl] at q1 ⊢
    exact ⟨F1, O1, P, ρ, R, g1, en.mono s1, q1, fun b O' F' H' v q2 s2 g2 => po b O' F' H' v q2 (s1.trans s2) g2⟩
  | false =>
    rw [if_neg Bool.false_ne_true] at q1 ⊢
    exact po _ O1 F1 H1 _ q1 s1 g1 (by simp only [Rep])
theorem de_or (ha : DE M X a fa) (hb : DE M X (.BoolOp .Or (b :: rest) pos) fb) : DE M X (.BoolOp .Or (a :: b :: rest) pos) (fOrV fa fb) := by
  refine peMono (pe_or ha hb) fun σ H Q h => ?_
  obtain ⟨F, O, P, ρ, R, g, en, q, po⟩ := h
  refine ⟨F, O, P, ρ, _, g, en, q, fun k O1 F1 H1 v q1 s1 g1 r1 => ?_⟩
  obtain ⟨c, rfl, q1⟩ := q1
  simp only [Rep] at r1
  refine ⟨c, r1, ?_⟩
  cases c with
  | false =>
    rw [if_neg Bool.false_ne_true] at q1 ⊢
    exact ⟨F1, O1, P, ρ, R, g1, en.mono s1, q1, fun b O' F' H' v q2 s2 g2 => po b O' F' H' v q2 (s1.trans s2) g2⟩
  | true =>
    rw [if_pos rfl] at q1 ⊢
    exact po _ O1 F1 H1 _ q1 s1 g1 (by simp only [Rep])
theorem de_not (ha : DE M X a fa) : DE M X (.UnaryOp .Not a pos) (fNotV fa) := by
  refine peMono (pe_not ha) fun σ H Q h => ?_
  obtain ⟨F, O, P, ρ, R, g, en, q, po⟩ := h
  refine ⟨F, O, P, ρ, _, g, en, q, fun k O1 F1 H1 v q1 s1 g1 r1 => ?_⟩
  obtain ⟨c, rfl, q1⟩ := q1
  simp only [Rep] at r1
  exact ⟨c, r1, po _ O1 F1 H1 _ q1 s1 g1 (by simp only [Rep])⟩
/-- a if t else b -/
def fIf (t : FT) (fa fb : FE) : FE := fun ρ O Q => t ρ O fun c O1 => if c = true then fa ρ O1 Q else fb ρ O1 Q
theorem de_ifExp (hc : DT M X c tA) (ha : DE M X a fa) (hb : DE M X b fb) : DE M X (.IfExp c a b pos) (fIf tA fa fb) := by
  refine peMono (pe_ifExp hc ha hb) fun σ H Q h => ?_
  obtain ⟨F, O, P, ρ, R, g, en, q, po⟩ := h
  refine ⟨F, O, P, ρ, _, g, en, q, fun k O1 F1 H1 q1 s1 g1 => ?_⟩
  cases k with
  | true =>
    rw [if_pos rfl] at q1 ⊢
    exact ⟨F1, O1, P, ρ, R, g1, en.mono s1, q1, fun b O' F' H' v q2 s2 g2 => po b O' F' H' v q2 (s1.trans s2) g2⟩
  | false =>
    rw [if_neg Bool.false_ne_true] at q1 ⊢
    exact ⟨F1, O1, P, ρ, R, g1, en.mono s1, q1, fun b O' F' H' v q2 s2 g2 => po b O' F' H' v q2 (s1.trans s2) g2⟩
/-! ### argument lists, displays -/
def fNil : FA := fun _ O Q => Q [] O
def fCons (fa : FE) (fr : FA) : FA := fun ρ O Q => fa ρ O fun x O1 => fr ρ O1 fun xs O2 => Q (x :: xs) O2
variable {fr : FA}
theorem da_nil : DA M X [] fNil := paMono pa_nil fun σ H Q h => by
  obtain ⟨F, O, P, ρ, R, g, en, q, po⟩ := h
  exact po [] O F H [] q (Same.refl _) g .nil
theorem da_cons (ha : DE M X e fa) (hr : DA M X es fr) (hs : starEach (e :: es) X.env = (false, eval e X.env) :: starEach es X.env := by rfl) : DA M X (e :: es) (fCons fa fr) := by
  refine paMono (pa_cons ha hr hs) fun σ H Q h => ?_
  obtain ⟨F, O, P, ρ, R, g, en, q, po⟩ := h
  refine ⟨F, O, P, ρ, _, g, en, q, fun x O1 F1 H1 v q1 s1 g1 r1 => ?_⟩
  exact ⟨F1, O1, P, ρ, _, g1, en.mono s1, q1, fun xs O2 F2 H2 vs q2 s2 g2 r2 => po _ O2 F2 H2 _ q2 (s1.trans s2) g2 (.cons (r1.mono s2) r2)⟩
def fTup (fr : FA) : FE := fun ρ O Q => fr ρ O fun xs O1 => xs.length ≤ sizeLine ∧ Q (.tup xs) O1
theorem de_tup {x1} (h : DA M X es fr) : DE M X (.Tuple es x1 pos) (fTup fr) := by
  refine peMono (pe_tup h) fun σ H Q h => ?_
  obtain ⟨F, O, P, ρ, R, g, en, q, po⟩ := h
  refine ⟨F, O, P, ρ, _, g, en, q, fun xs O1 F1 H1 vs q1 s1 g1 r1 => ?_⟩
  refine ⟨by rw [← r1.length]; exact q1.1, fun p hp => ?_⟩
  have hF := g1.freeF hp
  refine po (.tup xs) O1 (upd F1 p (.tup vs)) _ _ q1.2 (s1.trans (same_upd hF)) (g1.new hp) ?_
  simp only [Rep]
  exact ⟨p, vs, rfl, .inl (.inl upd_same), r1.mono (same_upd hF)⟩
/-- a list that never changes -/
def fLst (fr : FA) : FE := fun ρ O Q => fr ρ O fun xs O1 => xs.length ≤ sizeLine ∧ Q (.lst xs) O1
theorem de_lst (h : DA M X es fr) : DE M X (.List es pos) (fLst fr) := by
  refine peMono (pe_lst h) fun σ H Q h => ?_
  obtain ⟨F, O, P, ρ, R, g, en, q, po⟩ := h
  refine ⟨F, O, P, ρ, _, g, en, q, fun xs O1 F1 H1 vs q1 s1 g1 r1 => ?_⟩
  refine ⟨by rw [← r1.length]; exact q1.1, fun p hp => ?_⟩
  have hF := g1.freeF hp
  refine po (.lst xs) O1 (upd F1 p (.lst vs)) _ _ q1.2 (s1.trans (same_upd hF)) (g1.new hp) ?_
  simp only [Rep]
  exact ⟨p, vs, rfl, upd_same, r1.mono (same_upd hF)⟩
/-- a list that is owned -/
def fLstO (fr : FA) : FE := fun ρ O Q => fr ρ O fun xs O1 => xs.length ≤ sizeLine ∧ ∀ p, O1 p = none → Q (.ref p) (updO O1 p (.lst xs))
theorem de_lstO (h : DA M X es fr) : DE M X (.List es pos) (fLstO fr) := by
  refine peMono (pe_lst h) fun σ H Q h => ?_
  obtain ⟨F, O, P, ρ, R, g, en, q, po⟩ := h
  refine ⟨F, O, P, ρ, _, g, en, q, fun xs O1 F1 H1 vs q1 s1 g1 r1 => ?_⟩
  refine ⟨by rw [← r1.length]; exact q1.1, fun p hp => ?_⟩
  exact po (.ref p) _ F1 _ _ (q1.2 p (g1.freeO hp)) s1 (g1.newO hp ⟨vs, upd_same, r1⟩) (by simp only [Rep])
/-- the law's pool: two numbers that are not negative -/
def rPool (xs : List D) (O : Ow) (Q : VD) : Prop := match xs with
  | [.int x, .int y] => 0 ≤ x ∧ 0 ≤ y ∧ y < 2147483647 ∧ ∀ p, O p = none → Q (.ref p) (updO O p .pool)
  | _ => False
def fPool (fr : FA) : FE := fun ρ O Q => fr ρ O fun xs O1 => rPool xs O1 Q
theorem de_pool (h : DA M X es fr) : DE M X (.List es pos) (fPool fr) := by
  refine peMono (pe_lst h) fun σ H Q h => ?_
  obtain ⟨F, O, P, ρ, R, g, en, q, po⟩ := h
  refine ⟨F, O, P, ρ, _, g, en, q, fun xs O1 F1 H1 vs q1 s1 g1 r1 => ?_⟩
  unfold rPool at q1
  split at q1
  · simp only [RepAll, Rep] at r1
    obtain ⟨_, _, rfl, rfl, _, _, rfl, rfl, rfl⟩ := r1
    refine ⟨show 2 ≤ sizeLine by decide, fun p hp => ?_⟩
    exact po (.ref p) _ F1 _ _ (q1.2.2.2 p (g1.freeO hp)) s1 (g1.newO hp ⟨_, _, upd_same, q1.1, q1.2.1, q1.2.2.1⟩) (by simp only [Rep])
  · exact q1.elim
end
end Kf
namespace Kf
open PySem PySem.Spec L2
open PyProof.Rows hiding St
variable {M : MX}

/-! ### data that is told apart by == -/
mutual
def toPy : D → PyData
  | .non => .none
  | .bl b => .bool b
  | .int i => .int i
  | .str x => .str x
  | .tup ds => .tuple (toPys ds)
  | .lst ds => .list (toPys ds)
  | .ref _ => .dict []
  | .ty _ => .dict []
  | .scr ns => .list (ns.map .int)
  | .edic => .dict []
def toPys : List D → List PyData
  | [] => []
  | d :: ds => toPy d :: toPys ds
end
mutual
def isPy : D → Bool
  | .non => true
  | .bl _ => true
  | .int _ => true
  | .str x => PyData.strOk x
  | .tup ds => isPys ds
  | .lst ds => isPys ds
  | .ref _ => false
  | .ty _ => false
  | .scr _ => false
  | .edic => false
def isPys : List D → Bool
  | [] => true
  | d :: ds => isPy d && isPys ds
end
theorem toPys_map : ∀ ds : List D, toPys ds = ds.map toPy
  | [] => rfl
  | d :: ds => by rw [toPys, toPys_map ds, List.map_cons]
theorem isPys_all : ∀ ds : List D, isPys ds = ds.all isPy
  | [] => rfl
  | d :: ds => by rw [isPys, isPys_all ds, List.all_cons]
mutual
theorem isPy_lay : ∀ d : D, isPy d = true → (toPy d).canLay0 = true
  | .non, _ => by simp only [toPy, PyData.canLay0]
  | .bl _, _ => by simp only [toPy, PyData.canLay0]
  | .int _, _ => by simp only [toPy, PyData.canLay0]
  | .str x, h => by simp only [isPy] at h; simp only [toPy, PyData.canLay0]; exact h
  | .tup ds, h => by simp only [isPy] at h; simp only [toPy, PyData.canLay0]; exact isPys_lay ds h
  | .lst ds, h => by simp only [isPy] at h; simp only [toPy, PyData.canLay0]; exact isPys_lay ds h
  | .ref _, h => by simp only [isPy] at h; cases h
  | .ty _, h => by simp only [isPy] at h; cases h
  | .scr _, h => by simp only [isPy] at h; cases h
  | .edic, h => by simp only [isPy] at h; cases h
theorem isPys_lay : ∀ ds : List D, isPys ds = true → PyData.canLayAll0 (toPys ds) = true
  | [], _ => by simp only [toPys, PyData.canLayAll0]
  | d :: ds, h => by
    simp only [isPys, Bool.and_eq_true] at h
    simp only [toPys, PyData.canLayAll0, Bool.and_eq_true]
    exact ⟨isPy_lay d h.1, isPys_lay ds h.2⟩
end
/-- how deep a datum is -/
def dp (d : D) : Nat := (toPy d).depth
section
variable {K : PySem.W.Frag} {F H : Hp}
mutual
theorem Rep.dp (s : Same F H) : ∀ (d : D) (v : V), isPy d = true → Rep K F d v → Dp K H v (toPy d)
  | .non, v, _, r => by simp only [Rep] at r; subst r; simp only [toPy]; exact .non
  | .bl b, v, _, r => by simp only [Rep] at r; subst r; simp only [toPy]; exact .bl b
  | .int b, v, _, r => by simp only [Rep] at r; subst r; simp only [toPy]; exact .int b
  | .str b, v, _, r => by simp only [Rep] at r; subst r; simp only [toPy]; exact .str b
  | .tup ds, v, h, r => by
    simp only [isPy] at h
    simp only [Rep] at r
    obtain ⟨a, xs, rfl, r1, r2⟩ := r
    simp only [toPy]
    exact .tup (Same.seqT s r1) (RepAll.dp s ds xs h r2)
  | .lst ds, v, h, r => by
    simp only [isPy] at h
    simp only [Rep] at r
    obtain ⟨a, xs, rfl, r1, r2⟩ := r
    simp only [toPy]
    exact .lst (SqL.of (s _ _ r1)) (RepAll.dp s ds xs h r2)
  | .ref _, _, h, _ => by simp only [isPy] at h; cases h
  | .ty _, _, h, _ => by simp only [isPy] at h; cases h
  | .scr _, _, h, _ => by simp only [isPy] at h; cases h
  | .edic, _, h, _ => by simp only [isPy] at h; cases h
theorem RepAll.dp (s : Same F H) : ∀ (ds : List D) (vs : List V), isPys ds = true → RepAll K F ds vs → DpAll K H vs (toPys ds)
  | [], vs, _, r => by simp only [RepAll] at r; subst r; simp only [toPys]; exact .nil
  | d :: ds, vs, h, r => by
    simp only [isPys, Bool.and_eq_true] at h
    simp only [RepAll] at r
    obtain ⟨v, q, rfl, r1, r2⟩ := r
    simp only [toPys]
    exact .cons (Rep.dp s d v h.1 r1) (RepAll.dp s ds q h.2 r2)
end
end

/-! ### an owned list read -/
def deref (O : Ow) : D → D
  | .ref a => match O a with
    | some (.lst ds) => .lst ds
    | _ => .ref a
  | d => d
/-- as Rep, but a list may be owned -/
def RepH (K : PySem.W.Frag) (F H : Hp) (d : D) (v : V) : Prop := match d with
  | .lst ds => ∃ a xs, v = .ref a ∧ H a = some (.lst xs) ∧ RepAll K F ds xs
  | d => Rep K F d v
section
variable {K : PySem.W.Frag} {F P H : Hp} {O : Ow}
theorem Gd.deref (g : Gd M K F O P H) {d : D} {v : V} (r : Rep K F d v) : RepH K F H (deref O d) v := by
  cases d with
  | lst ds =>
    simp only [Rep] at r
    obtain ⟨a, xs, e, h1, h2⟩ := r
    exact ⟨a, xs, e, g.fz _ _ h1, h2⟩
  | ref a =>
    cases e : O a with
    | none =>
      have z : Kf.deref O (.ref a) = .ref a := by simp only [Kf.deref, e]
      rw [z]; exact r
    | some c =>
      cases c with
      | pool =>
        have z : Kf.deref O (.ref a) = .ref a := by simp only [Kf.deref, e]
        rw [z]; exact r
      | dic kvs =>
        have z : Kf.deref O (.ref a) = .ref a := by simp only [Kf.deref, e]
        rw [z]; exact r
      | dicL kvs o =>
        have z : Kf.deref O (.ref a) = .ref a := by simp only [Kf.deref, e]
        rw [z]; exact r
      | exc _ _ =>
        have z : Kf.deref O (.ref a) = .ref a := by simp only [Kf.deref, e]
        rw [z]; exact r
      | ins _ _ =>
        have z : Kf.deref O (.ref a) = .ref a := by simp only [Kf.deref, e]
        rw [z]; exact r
      | lst ds =>
        have z : Kf.deref O (.ref a) = .lst ds := by simp only [Kf.deref, e]
        rw [z]
        obtain ⟨_, _, vs, h1, h2⟩ := g.ow a _ e
        simp only [Rep] at r
        exact ⟨a, vs, r, h1, h2⟩
  | _ => exact r
theorem RepH.dp (s : Same F H) {d : D} {v : V} (h : isPy d = true) (r : RepH K F H d v) : Dp K H v (toPy d) := by
  cases d with
  | lst ds =>
    obtain ⟨a, xs, rfl, h1, h2⟩ := r
    simp only [isPy] at h
    simp only [toPy]
    exact .lst (SqL.of h1) (RepAll.dp s ds xs h h2)
  | _ => exact Rep.dp s _ v h r

/-- read through owned lists at any depth -/
def ddf (O : Ow) : Nat → D → D
  | 0, d => d
  | n + 1, .ref a => match O a with
    | some (.lst ds) => .lst (ds.map (ddf O n))
    | _ => .ref a
  | n + 1, .tup ds => .tup (ds.map (ddf O n))
  | n + 1, .lst ds => .lst (ds.map (ddf O n))
  | _ + 1, d => d
theorem repAll_map {f : D → D} {F' : Hp} (h : ∀ d v, Rep K F d v → Rep K F' (f d) v) : ∀ {ds : List D} {vs : List V}, RepAll K F ds vs → RepAll K F' (ds.map f) vs
  | [], _, r => by simp only [RepAll] at r; subst r; exact .nil
  | d :: ds, _, r => by
    simp only [RepAll] at r
    obtain ⟨v, w, rfl, r1, r2⟩ := r
    rw [List.map_cons]
    exact .cons (h d v r1) (repAll_map h r2)
theorem Gd.ddf (g : Gd M K F O P H) : ∀ (n : Nat) (d : D) (v : V), Rep K F d v → Rep K H (ddf O n d) v
  | 0, d, v, r => r.mono g.fz
  | n + 1, d, v, r => by
    cases d with
    | tup ds =>
      simp only [Rep] at r
      obtain ⟨a, xs, e, h1, h2⟩ := r
      simp only [Kf.ddf, Rep]
      exact ⟨a, xs, e, Same.seqT g.fz h1, repAll_map (Gd.ddf g n) h2⟩
    | lst ds =>
      simp only [Rep] at r
      obtain ⟨a, xs, e, h1, h2⟩ := r
      simp only [Kf.ddf, Rep]
      exact ⟨a, xs, e, g.fz _ _ h1, repAll_map (Gd.ddf g n) h2⟩
    | ref a =>
      cases e : O a with
      | none =>
        have z : Kf.ddf O (n + 1) (.ref a) = .ref a := by simp only [Kf.ddf, e]
        rw [z]; exact r.mono g.fz
      | some c =>
        cases c with
        | lst ds =>
          have z : Kf.ddf O (n + 1) (.ref a) = .lst (ds.map (Kf.ddf O n)) := by simp only [Kf.ddf, e]
          rw [z]
          obtain ⟨_, _, vs, h1, h2⟩ := g.ow a _ e
          simp only [Rep] at r ⊢
          exact ⟨a, vs, r, h1, repAll_map (Gd.ddf g n) h2⟩
        | _ =>
          have z : Kf.ddf O (n + 1) (.ref a) = .ref a := by simp only [Kf.ddf, e]
          rw [z]; exact r.mono g.fz
    | _ => simp only [Kf.ddf]; exact r.mono g.fz
/-! what holds no owned list is read as it is -/
theorem ddf_py {O : Ow} : ∀ (n : Nat) (d : D), isPy d = true → ddf O n d = d
  | 0, d, h => rfl
  | n + 1, d, h => by
    have hm : ∀ ds : List D, isPys ds = true → ds.map (ddf O n) = ds := fun ds hd => by
      rw [isPys_all, List.all_eq_true] at hd
      exact (List.map_congr_left fun x hx => ddf_py n x (hd x hx)).trans (List.map_id' ds)
    cases d with
    | tup ds => simp only [isPy] at h; simp only [ddf, hm ds h]
    | lst ds => simp only [isPy] at h; simp only [ddf, hm ds h]
    | ref a => simp [isPy] at h
    | _ => rfl
theorem ddf_deref {O : Ow} {n : Nat} {d : D} (h : isPy (deref O d) = true) : ddf O (n + 1) d = deref O d := by
  cases d with
  | ref a =>
    cases e : O a with
    | none =>
      have z : deref O (.ref a) = .ref a := by simp only [deref, e]
      rw [z] at h; simp [isPy] at h
    | some c =>
      cases c with
      | lst ds =>
        have z : deref O (.ref a) = .lst ds := by simp only [deref, e]
        have z2 : ddf O (n + 1) (.ref a) = .lst (ds.map (ddf O n)) := by simp only [ddf, e]
        rw [z] at h ⊢
        rw [z2]
        simp only [isPy] at h
        rw [isPys_all, List.all_eq_true] at h
        rw [(List.map_congr_left fun x hx => ddf_py n x (h x hx)).trans (List.map_id' ds)]
      | _ =>
        have z : deref O (.ref a) = .ref a := by simp only [deref, e]
        rw [z] at h; simp [isPy] at h
  | _ => exact ddf_py (n + 1) _ h
/-! ### ends -/
theorem PostE.at {R : VD} {Q : VK} {d : D} {v : V} (po : PostE M K F P R Q) (g : Gd M K F O P H) (h : R d O) (r : Rep K F d v) : Q v H := po d O F H v h (Same.refl _) g r
theorem PostE.lst {R : VD} {Q : VK} {ds : List D} {vs : List V} {p : Addr} (po : PostE M K F P R Q) (g : Gd M K F O P H) (h : R (.lst ds) O) (r : RepAll K F ds vs) (hp : H p = none) : Q (.ref p) (upd H p (.lst vs)) := by
  have hF := g.freeF hp
  refine po (.lst ds) O (upd F p (.lst vs)) _ _ h (same_upd hF) (g.new hp) ?_
  simp only [Rep]
  exact ⟨p, vs, rfl, upd_same, r.mono (same_upd hF)⟩
theorem PostE.tup {R : VD} {Q : VK} {ds : List D} {vs : List V} {p : Addr} (po : PostE M K F P R Q) (g : Gd M K F O P H) (h : R (.tup ds) O) (r : RepAll K F ds vs) (hp : H p = none) : Q (.ref p) (upd H p (.tup vs)) := by
  have hF := g.freeF hp
  refine po (.tup ds) O (upd F p (.tup vs)) _ _ h (same_upd hF) (g.new hp) ?_
  simp only [Rep]
  exact ⟨p, vs, rfl, .inl (.inl upd_same), r.mono (same_upd hF)⟩
theorem PostE.lstO {R : VD} {Q : VK} {ds : List D} {vs : List V} {p : Addr} (po : PostE M K F P R Q) (g : Gd M K F O P H) (h : ∀ p, O p = none → R (.ref p) (updO O p (.lst ds))) (r : RepAll K F ds vs) (hp : H p = none) : Q (.ref p) (upd H p (.lst vs)) :=
  po (.ref p) _ F _ _ (h p (g.freeO hp)) (Same.refl _) (g.newO hp ⟨vs, upd_same, r⟩) (by simp only [Rep])
theorem PostE.more {R : VD} {Q : VK} {F' : Hp} (po : PostE M K F P R Q) (s : Same F F') : PostE M K F' P R Q := fun d O' F2 H' v q s2 g r => po d O' F2 H' v q (s.trans s2) g r
end

section
variable {X : Cx}
theorem opD_of {f : Value → Value → Sem Value} {r : R2D}
    (h : ∀ (pins : List (Addr × Obj)) (s : Shared) (σ : St) (F P H : Hp) (O : Ow) (x y : V) (dx dy : D) (v u : Value) (R : VD) (Q : VK), Inv X pins σ H s → RelV x v → RelV y u → Gd M X.K F O P H → Rep X.K F dx x → Rep X.K F dy y → r dx dy O R → PostE M X.K F P R Q →
      ∃ r0, OpR X f r0 ∧ r0 x y H Q) : OpD M X f r := by
  intro pins s σ H x y v u Q I rx ry q
  obtain ⟨F, O, P, dx, dy, R, g, r1, r2, q, po⟩ := q
  obtain ⟨r0, o, z⟩ := h pins s σ F P H O x y dx dy v u R Q I rx ry g r1 r2 q po
  exact o pins s σ H x y v u Q I rx ry z

/-! ### + - * // % ** -/
def rAddD : R2D := fun x y O Q => match deref O x, deref O y with
  | .int i, .int j => Q (.int (i + j)) O
  | .int i, .bl k => Q (.int (i + b2i k)) O
  | .str i, .str j => i.length + j.length ≤ sizeLine ∧ Q (.str (i ++ j)) O
  | .lst xs, .lst ys => xs.length + ys.length ≤ sizeLine ∧ Q (.lst (xs ++ ys)) O
  | .tup xs, .tup ys => xs ≠ [] ∧ xs.length + ys.length ≤ sizeLine ∧ Q (.tup (xs ++ ys)) O
  | _, _ => False
/-- .. of two lists, the new one owned -/
def rCatO : R2D := fun x y O Q => match deref O x, deref O y with
  | .lst xs, .lst ys => xs.length + ys.length ≤ sizeLine ∧ ∀ p, O p = none → Q (.ref p) (updO O p (.lst (xs ++ ys)))
  | _, _ => False
theorem od_add : OpD M X (binaryOp .Add) rAddD := by
  refine opD_of fun pins s σ F P H O x y dx dy v u R Q I rx ry g r1 r2 q po => ?_
  have h1 := g.deref r1
  have h2 := g.deref r2
  unfold rAddD at q
  revert q h1 h2
  generalize Kf.deref O dx = ex
  generalize Kf.deref O dy = ey
  intro q h1 h2
  cases ex <;> cases ey <;> first | exact q.elim | skip
  · simp only [RepH, Rep] at h1 h2
    exact ⟨_, op_add_ib, _, _, h1, h2, po.at g q (by simp only [Rep])⟩
  · simp only [RepH, Rep] at h1 h2
    exact ⟨_, op_add, _, _, h1, h2, po.at g q (by simp only [Rep])⟩
  · simp only [RepH, Rep] at h1 h2
    exact ⟨_, op_add_str, _, _, h1, h2, q.1, po.at g q.2 (by simp only [Rep])⟩
  · simp only [RepH, Rep] at h1 h2
    obtain ⟨a, xs, rfl, a1, a2⟩ := h1
    obtain ⟨b, ys, rfl, b1, b2⟩ := h2
    obtain ⟨q1, q2, q3⟩ := q
    refine ⟨_, op_catT, a, b, xs, ys, rfl, rfl, Same.seqT g.fz a1, Same.seqT g.fz b1, ?_, by rw [← a2.length, ← b2.length]; exact q2, fun e => ?_, fun e p hp => ?_⟩
    · intro e; rw [e] at a2; have := a2.length; exact q1 (List.eq_nil_of_length_eq_zero (by simpa using this))
    · rw [e] at b2
      have l0 := b2.length
      rename_i ex ey
      have e0 : ey = [] := List.eq_nil_of_length_eq_zero (by simpa using l0)
      rw [e0, List.append_nil] at q3
      refine po.at g q3 ?_
      simp only [Rep]
      exact ⟨a, xs, rfl, a1, a2⟩
    · exact po.tup g q3 (a2.append b2) hp
  · obtain ⟨a, xs, rfl, a1, a2⟩ := h1
    obtain ⟨b, ys, rfl, b1, b2⟩ := h2
    exact ⟨_, op_cat, a, b, xs, ys, rfl, rfl, a1, b1, by rw [← a2.length, ← b2.length]; exact q.1, fun p hp => po.lst g q.2 (a2.append b2) hp⟩
theorem od_catO : OpD M X (binaryOp .Add) rCatO := by
  refine opD_of fun pins s σ F P H O x y dx dy v u R Q I rx ry g r1 r2 q po => ?_
  have h1 := g.deref r1
  have h2 := g.deref r2
  unfold rCatO at q
  revert q h1 h2
  generalize Kf.deref O dx = ex
  generalize Kf.deref O dy = ey
  intro q h1 h2
  cases ex <;> cases ey <;> first | exact q.elim | skip
  obtain ⟨a, xs, rfl, a1, a2⟩ := h1
  obtain ⟨b, ys, rfl, b1, b2⟩ := h2
  exact ⟨_, op_cat, a, b, xs, ys, rfl, rfl, a1, b1, by rw [← a2.length, ← b2.length]; exact q.1, fun p hp => po.lstO g q.2 (a2.append b2) hp⟩
def rInts (C : Int → Int → Prop) (f : Int → Int → D) : R2D := fun x y O Q => match x, y with
  | .int i, .int j => C i j ∧ Q (f i j) O
  | _, _ => False
theorem od_ints {f : Value → Value → Sem Value} {C : Int → Int → Prop} {g : Int → Int → V} {k : Int → Int → D} (h : OpR X f (rI C g)) (hk : ∀ F i j, Rep X.K F (k i j) (g i j)) : OpD M X f (rInts C k) := by
  refine opD_of fun pins s σ F P H O x y dx dy v u R Q I rx ry gd r1 r2 q po => ?_
  unfold rInts at q
  cases dx <;> first | exact q.elim | skip
  cases dy <;> first | exact q.elim | skip
  simp only [Rep] at r1 r2
  exact ⟨_, h, _, _, r1, r2, q.1, po.at gd q.2 (hk F _ _)⟩
def rInts0 (f : Int → Int → D) : R2D := fun x y O Q => match x, y with
  | .int i, .int j => Q (f i j) O
  | _, _ => False
theorem od_ints0 {f : Value → Value → Sem Value} {g : Int → Int → V} {k : Int → Int → D} (h : OpR X f (rI0 g)) (hk : ∀ F i j, Rep X.K F (k i j) (g i j)) : OpD M X f (rInts0 k) := by
  refine opD_of fun pins s σ F P H O x y dx dy v u R Q I rx ry gd r1 r2 q po => ?_
  unfold rInts0 at q
  cases dx <;> first | exact q.elim | skip
  cases dy <;> first | exact q.elim | skip
  simp only [Rep] at r1 r2
  exact ⟨_, h, _, _, r1, r2, po.at gd q (hk F _ _)⟩
theorem od_sub : OpD M X (binaryOp .Sub) (rInts0 fun i j => .int (i - j)) := od_ints0 op_sub fun _ _ _ => by simp only [Rep]
theorem od_mul : OpD M X (binaryOp .Mult) (rInts CMul fun i j => .int (i * j)) := od_ints op_mul fun _ _ _ => by simp only [Rep]
/-- // and divmod by a positive divisor below 2 ^ 60 -/
def CDv (i j : Int) : Prop := 0 < j ∧ j < 1329227995784915872903807060280344576
theorem CDv.w {i j : Int} (h : CDv i j) : CDivW i j := by
  obtain ⟨h1, h2⟩ := h
  exact wide_div h1 (b := 120) (by omega) (by decide) (by decide)
theorem op_fdivV : OpR X (binaryOp .FloorDiv) (rI CDv fun i j => .int (i / j)) := fun pins s σ H x y v u Q I rx ry ⟨i, j, e1, e2, c, q⟩ => op_fdivW pins s σ H x y v u Q I rx ry ⟨i, j, e1, e2, c.w, q⟩
theorem od_div : OpD M X (binaryOp .FloorDiv) (rInts CDv fun i j => .int (i / j)) := od_ints op_fdivV fun _ _ _ => by simp only [Rep]
theorem od_mod : OpD M X (binaryOp .Mod) (rInts (fun _ j => 0 < j) fun i j => .int (i % j)) := od_ints op_mod fun _ _ _ => by simp only [Rep]
theorem od_pow : OpD M X (binaryOp .Pow) (rInts CPow fun i j => .int (i ^ j.toNat)) := od_ints op_pow fun _ _ _ => by simp only [Rep]
/-! ### comparisons -/
/-- < of ints, of texts -/
def rLtD : R2D := fun x y O Q => match x, y with
  | .int i, .int j => Q (.bl (decide (i < j))) O
  | .str i, .str j => Q (.bl (decide (i.cps.toList < j.cps.toList))) O
  | _, _ => False
theorem od_lt : OpD M X (compareOp .Lt) rLtD := by
  refine opD_of fun pins s σ F P H O x y dx dy v u R Q I rx ry gd r1 r2 q po => ?_
  unfold rLtD at q
  cases dx <;> first | exact q.elim | skip
  all_goals cases dy <;> first | exact q.elim | skip
  · simp only [Rep] at r1 r2
    exact ⟨_, op_lt, _, _, r1, r2, po.at gd q (by simp only [Rep])⟩
  · simp only [Rep] at r1 r2
    exact ⟨_, op_lt_str, _, _, r1, r2, po.at gd q (by simp only [Rep])⟩
def rLeD : R2D := fun x y O Q => match x, y with
  | .int i, .int j => Q (.bl (decide (i ≤ j))) O
  | .str i, .str j => Q (.bl (!decide (j.cps.toList < i.cps.toList))) O
  | _, _ => False
theorem od_le : OpD M X (compareOp .LtE) rLeD := by
  refine opD_of fun pins s σ F P H O x y dx dy v u R Q I rx ry gd r1 r2 q po => ?_
  unfold rLeD at q
  cases dx <;> first | exact q.elim | skip
  all_goals cases dy <;> first | exact q.elim | skip
  · simp only [Rep] at r1 r2
    exact ⟨_, op_le, _, _, r1, r2, po.at gd q (by simp only [Rep])⟩
  · simp only [Rep] at r1 r2
    exact ⟨_, op_le_str, _, _, r1, r2, po.at gd q (by simp only [Rep])⟩
theorem od_gt : OpD M X (compareOp .Gt) (rInts0 fun i j => .bl (decide (j < i))) := od_ints0 op_gt fun _ _ _ => by simp only [Rep]
theorem od_ge : OpD M X (compareOp .GtE) (rInts0 fun i j => .bl (decide (j ≤ i))) := od_ints0 op_ge fun _ _ _ => by simp only [Rep]
/-- == of data; the answer by eqv -/
def rEqD (neg : Bool) : R2D := fun x y O Q => isPy (ddf O 192 x) = true ∧ isPy (ddf O 192 y) = true ∧ min (dp (ddf O 192 x)) (dp (ddf O 192 y)) ≤ 190 ∧ Q (.bl (neg ^^ PyData.eqv (toPy (ddf O 192 x)) (toPy (ddf O 192 y)))) O
theorem od_eq (hu : X.A.units + 200 < cLine) : OpD M X (compareOp .Eq) (rEqD false) := by
  intro pins s σ H x y v u Q I rx ry q
  obtain ⟨F, O, P, dx, dy, R, g, r1, r2, ⟨q1, q2, q3, q4⟩, po⟩ := q
  obtain ⟨as, w1⟩ := Dp.reads I _ x v (Rep.dp (Same.refl _) _ _ q1 (g.ddf 192 _ _ r1)) rx
  obtain ⟨bs, w2⟩ := Dp.reads I _ y u (Rep.dp (Same.refl _) _ _ q2 (g.ddf 192 _ _ r2)) ry
  have hroom : X.A.units + min (toPy (ddf O 192 dx)).depth (toPy (ddf O 192 dy)).depth < cLine := by
    have : min (toPy (ddf O 192 dx)).depth (toPy (ddf O 192 dy)).depth ≤ 190 := q3
    omega
  refine SeqAt.compareEq_reads w1 w2 (isPy_lay _ q1) (isPy_lay _ q2) hroom ⟨.bl _, H, I, rfl, ?_⟩
  rw [Bool.false_xor] at q4
  exact po.at g q4 (by simp only [Rep])
theorem od_ne (hu : X.A.units + 200 < cLine) : OpD M X (compareOp .NotEq) (rEqD true) := by
  intro pins s σ H x y v u Q I rx ry q
  obtain ⟨F, O, P, dx, dy, R, g, r1, r2, ⟨q1, q2, q3, q4⟩, po⟩ := q
  obtain ⟨as, w1⟩ := Dp.reads I _ x v (Rep.dp (Same.refl _) _ _ q1 (g.ddf 192 _ _ r1)) rx
  obtain ⟨bs, w2⟩ := Dp.reads I _ y u (Rep.dp (Same.refl _) _ _ q2 (g.ddf 192 _ _ r2)) ry
  have hroom : X.A.units + min (toPy (ddf O 192 dx)).depth (toPy (ddf O 192 dy)).depth < cLine := by
    have : min (toPy (ddf O 192 dx)).depth (toPy (ddf O 192 dy)).depth ≤ 190 := q3
    omega
  refine SeqAt.compareNe_reads w1 w2 (isPy_lay _ q1) (isPy_lay _ q2) hroom ⟨.bl _, H, I, rfl, ?_⟩
  rw [Bool.true_xor] at q4
  exact po.at g q4 (by simp only [Rep])
/-- is None, is not None -/
def isNon : D → Bool
  | .non => true
  | _ => false
theorem Rep.isNon {K : PySem.W.Frag} {F : Hp} {d : D} {v : V} (r : Rep K F d v) : decide (v = .non) = isNon d := by
  cases d <;> simp only [Rep] at r <;> first | (subst r; rfl) | (obtain ⟨a, xs, rfl, _⟩ := r; rfl) | (obtain ⟨a, rfl, _⟩ := r; rfl)
def rIsN (neg : Bool) : R2D := fun x y O Q => match y with
  | .non => Q (.bl (neg ^^ isNon x)) O
  | _ => False
theorem od_is : OpD M X (compareOp .Is) (rIsN false) := by
  refine opD_of fun pins s σ F P H O x y dx dy v u R Q I rx ry g r1 r2 q po => ?_
  unfold rIsN at q
  cases dy <;> first | exact q.elim | skip
  simp only [Rep] at r2
  refine ⟨_, op_isN, r2, ?_⟩
  rw [Bool.false_xor] at q
  rw [r1.isNon]
  exact po.at g q (by simp only [Rep])
theorem od_isnot : OpD M X (compareOp .IsNot) (rIsN true) := by
  refine opD_of fun pins s σ F P H O x y dx dy v u R Q I rx ry g r1 r2 q po => ?_
  unfold rIsN at q
  cases dy <;> first | exact q.elim | skip
  simp only [Rep] at r2
  refine ⟨_, op_notN, r2, ?_⟩
  rw [Bool.true_xor] at q
  rw [r1.isNon]
  exact po.at g q (by simp only [Rep])
/-- x in y: one sign in a text; a datum in a list; a flat one in a tuple -/
def flatD : D → Bool
  | .non => true
  | .bl _ => true
  | .int _ => true
  | .str x => PyData.strOk x
  | _ => false
def rInD (neg : Bool) : R2D := fun x y O Q => match deref O y with
  | .str z => match x with
    | .str i => ∃ c, i = ⟨#[c]⟩ ∧ Q (.bl (neg ^^ decide (c ∈ z.cps.toList))) O
    | _ => False
  | .lst ds => isPy (deref O x) = true ∧ isPys ds = true ∧ dp (deref O x) ≤ 190 ∧ Q (.bl (neg ^^ ds.any fun z => PyData.eqv (toPy z) (toPy (deref O x)))) O
  | .tup ds => isPy (deref O x) = true ∧ isPys ds = true ∧ dp (deref O x) ≤ 190 ∧ Q (.bl (neg ^^ ds.any fun z => PyData.eqv (toPy z) (toPy (deref O x)))) O
  | _ => False
theorem any_toPys (d : PyData) : ∀ ds : List D, (toPys ds).any (fun z => PyData.eqv z d) = ds.any fun z => PyData.eqv (toPy z) d
  | [] => rfl
  | x :: ds => by rw [toPys, List.any_cons, List.any_cons, any_toPys d ds]
theorem flat_of {K : PySem.W.Frag} {F : Hp} {d : D} {v : V} (h : flatD d = true) (r : Rep K F d v) : flatV v = true := by
  cases d <;> simp only [flatD] at h <;> first | cases h | skip
  all_goals simp only [Rep] at r; subst r; rfl
theorem eqV_of {K : PySem.W.Frag} {F : Hp} {d e : D} {v u : V} (h : flatD d = true) (h' : flatD e = true) (r : Rep K F d v) (r' : Rep K F e u) : eqV v u = PyData.eqv (toPy d) (toPy e) := by
  cases d <;> simp only [flatD] at h <;> first | cases h | skip
  all_goals cases e <;> simp only [flatD] at h' <;> first | cases h' | skip
  all_goals simp only [Rep] at r r'; subst r r'; simp only [eqV, toPy, PyData.eqv]
theorem inV_of {K : PySem.W.Frag} {F : Hp} {x : D} {v : V} (h : flatD x = true) (r : Rep K F x v) : ∀ {ds : List D} {vs : List V}, ds.all flatD = true → RepAll K F ds vs → vs.all flatV = true ∧ inV v vs = ds.any fun z => PyData.eqv (toPy z) (toPy x)
  | [], vs, _, q => by simp only [RepAll] at q; subst q; exact ⟨rfl, rfl⟩
  | d :: ds, vs, hd, q => by
    simp only [RepAll] at q
    obtain ⟨w, ws, rfl, q1, q2⟩ := q
    rw [List.all_cons, Bool.and_eq_true] at hd
    obtain ⟨i1, i2⟩ := inV_of h r hd.2 q2
    unfold inV at i2 ⊢
    rw [List.all_cons, List.any_cons, List.any_cons, i2, eqV_of hd.1 h q1 r, flat_of hd.1 q1, i1]
    exact ⟨rfl, rfl⟩
theorem od_in_gen {op : CmpOp} {neg : Bool} (hu : X.A.units + 200 < cLine)
    (h1 : OpR X (compareOp op) (fun x y H Q => ∃ (c : Nat) (z : Str), x = .str ⟨#[c]⟩ ∧ y = .str z ∧ Q (.bl (neg ^^ decide (c ∈ z.cps.toList))) H))
    (h2 : ∀ (pins : List (Addr × Obj)) (s : Shared) (σ : St) (H : Hp) (x y : V) (v u : Value) (Q : VK) (d : PyData) (ds : List PyData), Inv X pins σ H s → RelV x v → RelV y u → Dp X.K H x d → Dp X.K H y (.list ds) → d.canLay0 = true → PyData.canLayAll0 ds = true → d.depth ≤ 190 →
      Q (.bl (neg ^^ ds.any fun z => PyData.eqv z d)) H → wpAny (model X.prog X.w) X.A (compareOp op v u) (EP X pins σ Q) X.xe s)
    (h3 : ∀ (pins : List (Addr × Obj)) (s : Shared) (σ : St) (H : Hp) (x y : V) (v u : Value) (Q : VK) (d : PyData) (ds : List PyData), Inv X pins σ H s → RelV x v → RelV y u → Dp X.K H x d → Dp X.K H y (.tuple ds) → d.canLay0 = true → PyData.canLayAll0 ds = true → d.depth ≤ 190 →
      Q (.bl (neg ^^ ds.any fun z => PyData.eqv z d)) H → wpAny (model X.prog X.w) X.A (compareOp op v u) (EP X pins σ Q) X.xe s) : OpD M X (compareOp op) (rInD neg) := by
  intro pins s σ H x y v u Q I rx ry q
  obtain ⟨F, O, P, dx, dy, R, g, r1, r2, q, po⟩ := q
  have e2 := g.deref r2
  unfold rInD at q
  revert q e2
  generalize hey : Kf.deref O dy = ey
  intro q e2
  cases ey <;> first | exact q.elim | skip
  · cases dx <;> first | exact q.elim | skip
    simp only [RepH, Rep] at e2 r1
    obtain ⟨c, rfl, q⟩ := q
    exact h1 pins s σ H x y v u Q I rx ry ⟨c, _, r1, e2, po.at g q (by simp only [Rep])⟩
  · simp only [RepH, Rep] at e2
    obtain ⟨b, ys, rfl, b1, b2⟩ := e2
    obtain ⟨q1, q2, q3, q4⟩ := q
    refine h3 pins s σ H x _ v u Q _ _ I rx ry ((g.deref r1).dp g.fz q1) (.tup (Same.seqT g.fz b1) (RepAll.dp g.fz _ ys q2 b2)) (isPy_lay _ q1) (isPys_lay _ q2) q3 ?_
    rw [any_toPys]
    exact po.at g q4 (by simp only [Rep])
  · obtain ⟨q1, q2, q3, q4⟩ := q
    obtain ⟨b, ys, rfl, b1, b2⟩ := e2
    refine h2 pins s σ H x _ v u Q _ _ I rx ry ((g.deref r1).dp g.fz q1) (.lst (SqL.of b1) (RepAll.dp g.fz _ ys q2 b2)) (isPy_lay _ q1) (isPys_lay _ q2) q3 ?_
    rw [any_toPys]
    exact po.at g q4 (by simp only [Rep])
theorem od_in (hu : X.A.units + 200 < cLine) : OpD M X (compareOp .In) (rInD false) := by
  refine od_in_gen hu (fun pins s σ H x y v u Q I rx ry q => ?_) (fun pins s σ H x y v u Q d ds I rx ry hd he c1 c2 c3 q => ?_) (fun pins s σ H x y v u Q d ds I rx ry hd he c1 c2 c3 q => ?_)
  · obtain ⟨c, z, e1, e2, q⟩ := q
    rw [Bool.false_xor] at q
    exact op_in_sign pins s σ H x y v u Q I rx ry ⟨c, z, e1, e2, q⟩
  · obtain ⟨as, r1⟩ := Dp.reads I d x v hd rx
    obtain ⟨bs, r2⟩ := Dp.reads I (.list ds) y u he ry
    rw [Bool.false_xor] at q
    exact SeqAt.in_list_reads r2 r1 c2 c1 (by omega) ⟨.bl _, H, I, rfl, q⟩
  · obtain ⟨as, r1⟩ := Dp.reads I d x v hd rx
    obtain ⟨bs, r2⟩ := Dp.reads I (.tuple ds) y u he ry
    rw [Bool.false_xor] at q
    exact SeqAt.in_tuple_reads r2 r1 c2 c1 (by omega) ⟨.bl _, H, I, rfl, q⟩
theorem od_notin (hu : X.A.units + 200 < cLine) : OpD M X (compareOp .NotIn) (rInD true) := by
  refine od_in_gen hu (fun pins s σ H x y v u Q I rx ry q => ?_) (fun pins s σ H x y v u Q d ds I rx ry hd he c1 c2 c3 q => ?_) (fun pins s σ H x y v u Q d ds I rx ry hd he c1 c2 c3 q => ?_)
  · obtain ⟨c, z, e1, e2, q⟩ := q
    rw [Bool.true_xor] at q
    exact op_notIn_sign pins s σ H x y v u Q I rx ry ⟨c, z, e1, e2, q⟩
  · obtain ⟨as, r1⟩ := Dp.reads I d x v hd rx
    obtain ⟨bs, r2⟩ := Dp.reads I (.list ds) y u he ry
    rw [Bool.true_xor] at q
    exact SeqAt.notIn_list_reads r2 r1 c2 c1 (by omega) ⟨.bl _, H, I, rfl, q⟩
  · obtain ⟨as, r1⟩ := Dp.reads I d x v hd rx
    obtain ⟨bs, r2⟩ := Dp.reads I (.tuple ds) y u he ry
    rw [Bool.true_xor] at q
    exact SeqAt.notIn_tuple_reads r2 r1 c2 c1 (by omega) ⟨.bl _, H, I, rfl, q⟩
end
end Kf
namespace Kf
open PySem PySem.Spec L2
open PyProof.Rows hiding St
variable {M : MX}

section
variable {X : Cx} {a b e : Expr} {es : List Expr} {fa fb : FE} {fr : FA} {pos p2 : Pos}

/-! ### subscripts -/
def rIxD : R2D := fun x y O Q => match deref O x, y with
  | .lst ds, .int i => match atI ds i with
    | some d => Q d O
    | none => False
  | .tup ds, .int i => match atI ds i with
    | some d => Q d O
    | none => False
  | .str z, .int i => z.length ≤ sizeLine ∧ match atI z.cps.toList i with
    | some c => Q (.str ⟨#[c]⟩) O
    | none => False
  | .scr ns, .int i => match atI ns i with
    | some n => Q (.int n) O
    | none => False
  | .ref a, .int i => match O a with
    | some .pool => (i = 0 ∧ ∀ x : Int, 0 ≤ x → Q (.int x) O) ∨ (i = 1 ∧ ∀ x : Int, 0 ≤ x → x < 2147483647 → Q (.int x) O)
    | _ => False
  | _, _ => False
theorem RepAll.atI {K : PySem.W.Frag} {F : Hp} {ds : List D} {vs : List V} {i : Int} {d : D} (r : RepAll K F ds vs) (h : atI ds i = some d) : ∃ v, L2.atI vs i = some v ∧ Rep K F d v := by
  unfold L2.atI at h ⊢
  rw [← r.length]
  obtain ⟨j, h1, h2⟩ := Option.bind_eq_some_iff.mp h
  obtain ⟨v, e, q⟩ := r.get h2
  exact ⟨v, Option.bind_eq_some_iff.mpr ⟨j, h1, e⟩, q⟩
theorem atI_map {α β : Type} (f : α → β) (xs : List α) (i : Int) : L2.atI (xs.map f) i = (L2.atI xs i).map f := by
  unfold L2.atI
  rw [List.length_map]
  cases ixN xs.length i with
  | none => rfl
  | some j => simp
theorem id_ix : IxR X (liftR2 M X.K rIxD) := by
  intro value slice pins s σ H x y v u Q I rx ry q hp
  obtain ⟨F, O, P, dx, dy, R, g, r1, r2, q, po⟩ := q
  have h1 := g.deref r1
  unfold rIxD at q
  revert q h1
  generalize Kf.deref O dx = ex
  intro q h1
  cases ex <;> first | exact q.elim | skip
  all_goals cases dy <;> first | exact q.elim | skip
  all_goals simp only [Rep] at r2; subst r2
  · rename_i z i
    simp only [RepH, Rep] at h1; subst h1
    dsimp only at q
    obtain ⟨q0, q⟩ := q
    cases e : L2.atI z.cps.toList i with
    | none => rw [e] at q; exact q.elim
    | some c =>
      rw [e] at q
      exact ix_str value slice pins s σ H _ _ v u Q I rx ry ⟨z, i, c, rfl, rfl, q0, e, po.at g q (by simp only [Rep])⟩ hp
  · rename_i ds i
    simp only [RepH, Rep] at h1
    obtain ⟨c, xs, rfl, h1, h2⟩ := h1
    dsimp only at q
    cases e : L2.atI ds i with
    | none => rw [e] at q; exact q.elim
    | some d =>
      rw [e] at q
      obtain ⟨w, e2, rw'⟩ := h2.atI e
      exact ix_tup value slice pins s σ H _ _ v u Q I rx ry ⟨c, xs, i, w, rfl, rfl, Same.seqT g.fz h1, e2, po.at g q rw'⟩ hp
  · rename_i ds i
    obtain ⟨c, xs, rfl, h1, h2⟩ := h1
    dsimp only at q
    cases e : L2.atI ds i with
    | none => rw [e] at q; exact q.elim
    | some d =>
      rw [e] at q
      obtain ⟨w, e2, rw'⟩ := h2.atI e
      exact ix_list value slice pins s σ H _ _ v u Q I rx ry ⟨c, xs, i, w, rfl, rfl, SqL.of h1, e2, po.at g q rw'⟩ hp
  · rename_i c i
    simp only [RepH, Rep] at h1
    subst h1
    dsimp only at q
    cases e : O c with
    | none => rw [e] at q; exact q.elim
    | some cl =>
      rw [e] at q
      cases cl with
      | lst _ => exact q.elim
      | dic _ => exact q.elim
      | dicL _ _ => exact q.elim
      | exc _ _ => exact q.elim
      | ins _ _ => exact q.elim
      | pool =>
        obtain ⟨_, _, z, y, hH, h2, h3, h4⟩ := g.ow c _ e
        rcases q with ⟨rfl, q⟩ | ⟨rfl, q⟩
        · exact ix_list value slice pins s σ H _ _ v u Q I rx ry ⟨c, _, 0, .int z, rfl, rfl, SqL.of hH, rfl, po.at g (q z h2) (by simp only [Rep])⟩ hp
        · exact ix_list value slice pins s σ H _ _ v u Q I rx ry ⟨c, _, 1, .int y, rfl, rfl, SqL.of hH, rfl, po.at g (q y h3 h4) (by simp only [Rep])⟩ hp
  · rename_i ns i
    simp only [RepH, Rep] at h1
    obtain ⟨c, rfl, h1⟩ := h1
    dsimp only at q
    cases e : L2.atI ns i with
    | none => rw [e] at q; exact q.elim
    | some n =>
      rw [e] at q
      have e2 : L2.atI (ns.map V.int) i = some (.int n) := by rw [atI_map, e]; rfl
      exact ix_list value slice pins s σ H _ _ v u Q I rx ry ⟨c, _, i, _, rfl, rfl, g.fz.seq h1, e2, po.at g q (by simp only [Rep])⟩ hp
theorem de_ix (ha : DE M X a fa) (hb : DE M X b fb) (hs : PlainIx b := by intro _ _; rfl) : DE M X (.Subscript a b pos) (fOp rIxD fa fb) := peMono (pe_ix id_ix ha hb hs) fOp_lift
/-! ### slices -/
abbrev FO := DEnv → Ow → (Option Int → Ow → Prop) → Prop
def liftO (M : MX) (K : PySem.W.Frag) (f : FO) : TO := fun σ H Q => ∃ F O P ρ R, Gd M K F O P H ∧ EnvOk K F ρ σ ∧ f ρ O R ∧ ∀ o O' F' H', R o O' → Same F F' → Gd M K F' O' P H' → Q o H'
abbrev DO (M : MX) (X : Cx) (e : Option Expr) (f : FO) : Prop := PO X e (liftO M X.K f)
theorem poMono {X : Cx} {e : Option Expr} {t t' : TO} (h : PO X e t) (imp : ∀ σ H Q, t' σ H Q → t σ H Q) : PO X e t' := ⟨fun pins s σ H Q I q => h.run pins s σ H Q I (imp σ H Q q)⟩
def fNoPart : FO := fun _ O Q => Q none O
def asI (d : D) (O : Ow) (Q : Option Int → Ow → Prop) : Prop := match d with
  | .int i => Q (some i) O
  | _ => False
theorem asI_i {i : Int} {O : Ow} {Q : Option Int → Ow → Prop} : asI (.int i) O Q = Q (some i) O := rfl
def fPart (f : FE) : FO := fun ρ O Q => f ρ O fun d O1 => asI d O1 Q
theorem do_none : DO M X none fNoPart := poMono po_none fun σ H Q h => by
  obtain ⟨F, O, P, ρ, R, g, en, q, po⟩ := h
  exact po none O F H q (Same.refl _) g
theorem do_some (h : DE M X e fa) : DO M X (some e) (fPart fa) := poMono (po_some h) fun σ H Q h => by
  obtain ⟨F, O, P, ρ, R, g, en, q, po⟩ := h
  refine ⟨F, O, P, ρ, _, g, en, q, fun d O' F' H' v q1 s1 g1 r1 => ?_⟩
  unfold asI at q1
  cases d <;> first | exact q1.elim | skip
  simp only [Rep] at r1
  exact ⟨_, r1, po _ O' F' H' q1 s1 g1⟩
def cut {α : Type} (xs : List α) (lo hi : Option Int) : List α := (xs.drop (HT.sIx xs.length 0 lo)).take (HT.sIx xs.length xs.length hi - HT.sIx xs.length 0 lo)
theorem RepAll.cut {K : PySem.W.Frag} {F : Hp} {ds : List D} {vs : List V} (r : RepAll K F ds vs) (lo hi : Option Int) : RepAll K F (Kf.cut ds lo hi) (cutV vs lo hi) := by
  unfold Kf.cut cutV
  rw [r.length]
  exact (r.drop _).take _
abbrev R3D := D → Option Int → Option Int → Ow → VD → Prop
def rSlD : R3D := fun x lo hi O Q => match deref O x with
  | .lst ds => Q (.lst (cut ds lo hi)) O
  | .tup ds => ¬ (HT.sIx ds.length 0 lo = 0 ∧ HT.sIx ds.length ds.length hi = ds.length) ∧ Q (.tup (cut ds lo hi)) O
  | .str z => z.length ≤ sizeLine ∧ Q (.str (cutS z lo hi)) O
  | _ => False
/-- .. the new list owned -/
def rSlO : R3D := fun x lo hi O Q => match deref O x with
  | .lst ds => ∀ p, O p = none → Q (.ref p) (updO O p (.lst (cut ds lo hi)))
  | _ => False
def liftR3 (M : MX) (K : PySem.W.Frag) (r : R3D) : V → Option Int → Option Int → Hp → VK → Prop := fun x lo hi H Q => ∃ F O P dx R, Gd M K F O P H ∧ Rep K F dx x ∧ r dx lo hi O R ∧ PostE M K F P R Q
theorem sd_sl : SlR X (liftR3 M X.K rSlD) := by
  intro pins s σ H x v vl vu lo hi sl Q I rx hs pl pu q
  obtain ⟨F, O, P, dx, R, g, r1, q, po⟩ := q
  have h1 := g.deref r1
  unfold rSlD at q
  revert q h1
  generalize Kf.deref O dx = ex
  intro q h1
  cases ex <;> first | exact q.elim | skip
  · simp only [RepH, Rep] at h1
    exact sl_str pins s σ H x v vl vu lo hi sl Q I rx hs pl pu ⟨_, h1, q.1, po.at g q.2 (by simp only [Rep])⟩
  · simp only [RepH, Rep] at h1
    obtain ⟨c, xs, rfl, h1, h2⟩ := h1
    refine sl_tup pins s σ H _ v vl vu lo hi sl Q I rx hs pl pu ⟨c, xs, rfl, Same.seqT g.fz h1, by rw [← h2.length]; exact q.1, fun p hp => po.tup g q.2 (h2.cut lo hi) hp⟩
  · obtain ⟨c, xs, rfl, h1, h2⟩ := h1
    exact sl_list pins s σ H _ v vl vu lo hi sl Q I rx hs pl pu ⟨c, xs, rfl, SqL.of h1, fun p hp => po.lst g q (h2.cut lo hi) hp⟩
theorem sd_slO : SlR X (liftR3 M X.K rSlO) := by
  intro pins s σ H x v vl vu lo hi sl Q I rx hs pl pu q
  obtain ⟨F, O, P, dx, R, g, r1, q, po⟩ := q
  have h1 := g.deref r1
  unfold rSlO at q
  revert q h1
  generalize Kf.deref O dx = ex
  intro q h1
  cases ex <;> first | exact q.elim | skip
  obtain ⟨c, xs, rfl, h1, h2⟩ := h1
  exact sl_list pins s σ H _ v vl vu lo hi sl Q I rx hs pl pu ⟨c, xs, rfl, SqL.of h1, fun p hp => po.lstO g q (h2.cut lo hi) hp⟩
def fSl (r : R3D) (fe : FE) (fl fh : FO) : FE := fun ρ O Q => fe ρ O fun x O1 => fl ρ O1 fun l O2 => fh ρ O2 fun u O3 => r x l u O3 Q
theorem de_sliceR {r : R3D} {lo hi : Option Expr} {fl fh : FO} (hr : SlR X (liftR3 M X.K r)) (he : DE M X e fa) (hl : DO M X lo fl) (hu : DO M X hi fh) : DE M X (.Subscript e (.Slice lo hi none p2) pos) (fSl r fa fl fh) := by
  refine peMono (pe_slice hr he hl hu) fun σ H Q h => ?_
  obtain ⟨F, O, P, ρ, R, g, en, q, po⟩ := h
  refine ⟨F, O, P, ρ, _, g, en, q, fun x O1 F1 H1 v q1 s1 g1 r1 => ?_⟩
  refine ⟨F1, O1, P, ρ, _, g1, en.mono s1, q1, fun l O2 F2 H2 q2 s2 g2 => ?_⟩
  refine ⟨F2, O2, P, ρ, _, g2, en.mono (s1.trans s2), q2, fun u O3 F3 H3 q3 s3 g3 => ?_⟩
  exact ⟨F3, O3, P, x, R, g3, r1.mono (s2.trans s3), q3, po.more (s1.trans (s2.trans s3))⟩
theorem de_slice {lo hi : Option Expr} {fl fh : FO} (he : DE M X e fa) (hl : DO M X lo fl) (hu : DO M X hi fh) : DE M X (.Subscript e (.Slice lo hi none p2) pos) (fSl rSlD fa fl fh) := de_sliceR sd_sl he hl hu
theorem de_sliceO {lo hi : Option Expr} {fl fh : FO} (he : DE M X e fa) (hl : DO M X lo fl) (hu : DO M X hi fh) : DE M X (.Subscript e (.Slice lo hi none p2) pos) (fSl rSlO fa fl fh) := de_sliceR sd_slO he hl hu
/-! ### -a -/
def rNeg : R1D := fun x O Q => match x with
  | .int i => Q (.int (-i)) O
  | _ => False
def fUn (r : R1D) (f : FE) : FE := fun ρ O Q => f ρ O fun x O1 => r x O1 Q
theorem de_neg (ha : DE M X a fa) : DE M X (.UnaryOp .USub a pos) (fUn rNeg fa) := by
  refine peMono (pe_un un_neg ha) fun σ H Q h => ?_
  obtain ⟨F, O, P, ρ, R, g, en, q, po⟩ := h
  refine ⟨F, O, P, ρ, _, g, en, q, fun x O1 F1 H1 v q1 s1 g1 r1 => ?_⟩
  cases x <;> first | exact q1.elim | skip
  simp only [Rep] at r1
  exact ⟨_, r1, (po.more s1).at g1 q1 (by simp only [Rep])⟩
/-! ### calls of built-ins -/
abbrev RAD := List D → Ow → VD → Prop
abbrev CallD (M : MX) (X : Cx) (f : Value) (r : RAD) : Prop := CallR X f (liftRA M X.K r)
def fCB (r : RAD) (fr : FA) : FE := fun ρ O Q => fr ρ O fun ds O1 => r ds O1 Q
theorem fCB_lift {r : RAD} : ∀ σ H Q, liftE M X.K (fCB r fr) σ H Q → tCB (liftRA M X.K r) (liftA M X.K fr) σ H Q := by
  intro σ H Q h
  obtain ⟨F, O, P, ρ, R, g, en, q, po⟩ := h
  refine ⟨F, O, P, ρ, _, g, en, q, fun ds O1 F1 H1 vs q1 s1 g1 r1 => ?_⟩
  exact ⟨F1, O1, P, ds, R, g1, r1, q1, po.more s1⟩
theorem de_callB {id : String} {r : RAD} {x : Str} {p : Pos} (hc : CallD M X (.builtin id) r) (hg : Gl X x) (hm : X.mg x = none) (hv : bootBuiltins x = some (.builtin id)) (ha : DA M X (e :: es) fr) (hn : x ≠ "__name__" := by decide) (hdb : (x == ("__debug__" : Str)) = false := by decide)
    (he : starEach (e :: es) X.env = (false, eval e X.env) :: starEach es X.env := by rfl) (hpl : (backTo pos (starEach es X.env)).any (·.1) = false := by rfl) : DE M X (.Call (.Name x p) (e :: es) [] pos) (fCB r fr) :=
  peMono (pe_callB hc hg hm hv ha hn hdb he hpl) fCB_lift
theorem de_callTy {T : String} {r : RAD} {x : Str} {p : Pos} (hc : CallD M X (.type T) r) (hg : Gl X x) (hm : X.mg x = none) (hv : bootBuiltins x = some (.type T)) (ha : DA M X (e :: es) fr) (hn : x ≠ "__name__" := by decide) (hdb : (x == ("__debug__" : Str)) = false := by decide)
    (he : starEach (e :: es) X.env = (false, eval e X.env) :: starEach es X.env := by rfl) (hpl : (backTo pos (starEach es X.env)).any (·.1) = false := by rfl) : DE M X (.Call (.Name x p) (e :: es) [] pos) (fCB r fr) :=
  peMono (pe_callTy hc hg hm hv ha hn hdb he hpl) fCB_lift
theorem callD_of {f : Value} {r : RAD}
    (h : ∀ (F P H : Hp) (O : Ow) (xs : List V) (ds : List D) (R : VD) (Q : VK), Gd M X.K F O P H → RepAll X.K F ds xs → r ds O R → PostE M X.K F P R Q → ∃ r0, CallR X f r0 ∧ r0 xs H Q) : CallD M X f r := by
  intro pins s σ H xs us Q I rx q
  obtain ⟨F, O, P, ds, R, g, r1, q, po⟩ := q
  obtain ⟨r0, o, z⟩ := h F P H O xs ds R Q g r1 q po
  exact o pins s σ H xs us Q I rx z
/-- len -/
def rLenD : RAD := fun ds O Q => match ds with
  | [x] => match deref O x with
    | .lst ds => Q (.int ds.length) O
    | .tup ds => Q (.int ds.length) O
    | .str z => z.length ≤ sizeLine ∧ Q (.int z.length) O
    | .scr ns => Q (.int ns.length) O
    | _ => False
  | _ => False
theorem RepAll.one' {K : PySem.W.Frag} {F : Hp} {d : D} {vs : List V} (h : RepAll K F [d] vs) : ∃ v, vs = [v] ∧ Rep K F d v := by
  simp only [RepAll] at h
  obtain ⟨v, r, rfl, h1, rfl⟩ := h
  exact ⟨v, rfl, h1⟩
theorem RepAll.two' {K : PySem.W.Frag} {F : Hp} {d e : D} {vs : List V} (h : RepAll K F [d, e] vs) : ∃ v w, vs = [v, w] ∧ Rep K F d v ∧ Rep K F e w := by
  simp only [RepAll] at h
  obtain ⟨v, r, rfl, h1, w, r2, rfl, h2, rfl⟩ := h
  exact ⟨v, w, rfl, h1, h2⟩
theorem cd_len : CallD M X (.builtin "len") rLenD := by
  refine callD_of fun F P H O xs ds R Q g r1 q po => ?_
  match ds, q with
  | [x], q =>
    obtain ⟨v, rfl, r1'⟩ := r1.one'
    have h1 := g.deref r1'
    unfold rLenD at q
    dsimp only at q
    revert q h1
    generalize Kf.deref O x = ex
    intro q h1
    cases ex <;> first | exact q.elim | skip
    · simp only [RepH, Rep] at h1
      exact ⟨_, call_len_str, _, by rw [h1], q.1, po.at g q.2 (by simp only [Rep])⟩
    · simp only [RepH, Rep] at h1
      obtain ⟨c, xs, rfl, h1, h2⟩ := h1
      exact ⟨_, call_len_seq, c, xs, rfl, .inr (Same.seqT g.fz h1), po.at g q (by simp only [Rep]; rw [h2.length])⟩
    · obtain ⟨c, xs, rfl, h1, h2⟩ := h1
      exact ⟨_, call_len_seq, c, xs, rfl, .inl (SqL.of h1), po.at g q (by simp only [Rep]; rw [h2.length])⟩
    · simp only [RepH, Rep] at h1
      obtain ⟨c, rfl, h1⟩ := h1
      exact ⟨_, call_len_seq, c, _, rfl, .inl (g.fz.seq h1), po.at g q (by simp only [Rep]; rw [List.length_map])⟩
/-- max, min of two ints -/
def rMax2 : RAD := fun ds O Q => match ds with
  | [.int i, .int j] => Q (.int (if j > i then j else i)) O
  | _ => False
def rMin2 : RAD := fun ds O Q => match ds with
  | [.int i, .int j] => Q (.int (if j < i then j else i)) O
  | _ => False
theorem cd_max2 (hc : X.calm = true) : CallD M X (.builtin "max") rMax2 := by
  refine callD_of fun F P H O xs ds R Q g r1 q po => ?_
  unfold rMax2 at q
  split at q
  · obtain ⟨v, w, rfl, h1, h2⟩ := r1.two'
    simp only [Rep] at h1 h2
    exact ⟨_, call_max2 hc, _, _, by rw [h1, h2], po.at g q (by simp only [Rep])⟩
  · exact q.elim
theorem cd_min2 (hc : X.calm = true) : CallD M X (.builtin "min") rMin2 := by
  refine callD_of fun F P H O xs ds R Q g r1 q po => ?_
  unfold rMin2 at q
  split at q
  · obtain ⟨v, w, rfl, h1, h2⟩ := r1.two'
    simp only [Rep] at h1 h2
    exact ⟨_, call_min2 hc, _, _, by rw [h1, h2], po.at g q (by simp only [Rep])⟩
  · exact q.elim
/-- int(i), int(b); str(i) -/
def rInt1 : RAD := fun ds O Q => match ds with
  | [.int i] => Q (.int i) O
  | [.bl k] => Q (.int (if k then 1 else 0)) O
  | _ => False
theorem cd_int1 : CallD M X (.type "int") rInt1 := by
  refine callD_of fun F P H O xs ds R Q g r1 q po => ?_
  unfold rInt1 at q
  split at q
  · obtain ⟨v, rfl, h1⟩ := r1.one'
    simp only [Rep] at h1
    exact ⟨_, call_int1, .inl ⟨_, by rw [h1], po.at g q (by simp only [Rep])⟩⟩
  · obtain ⟨v, rfl, h1⟩ := r1.one'
    simp only [Rep] at h1
    exact ⟨_, call_int1, .inr ⟨_, by rw [h1], po.at g q (by simp only [Rep])⟩⟩
  · exact q.elim
def rStr1 : RAD := fun ds O Q => match ds with
  | [.int i] => i.natAbs.log2 < 1920 ∧ Q (.str (toString i)) O
  | _ => False
theorem cd_str1 : CallD M X (.type "str") rStr1 := by
  refine callD_of fun F P H O xs ds R Q g r1 q po => ?_
  unfold rStr1 at q
  split at q
  · obtain ⟨v, rfl, h1⟩ := r1.one'
    simp only [Rep] at h1
    exact ⟨_, call_str_int, _, by rw [h1], q.1, po.at g q.2 (by simp only [Rep])⟩
  · exact q.elim
/-- list(x): a new list; tuple(x) -/
def rList1 : RAD := fun ds O Q => match ds with
  | [x] => match deref O x with
    | .lst ds => Q (.lst ds) O
    | .tup ds => Q (.lst ds) O
    | _ => False
  | _ => False
def rList1O : RAD := fun ds O Q => match ds with
  | [x] => match deref O x with
    | .lst ds => ∀ p, O p = none → Q (.ref p) (updO O p (.lst ds))
    | .tup ds => ∀ p, O p = none → Q (.ref p) (updO O p (.lst ds))
    | _ => False
  | _ => False
def rTup1 : RAD := fun ds O Q => match ds with
  | [x] => match deref O x with
    | .lst ds => Q (.tup ds) O
    | .tup ds => Q (.tup ds) O
    | _ => False
  | _ => False
theorem cd_list1 : CallD M X (.type "list") rList1 := by
  refine callD_of fun F P H O xs ds R Q g r1 q po => ?_
  match ds, q with
  | [x], q =>
    obtain ⟨v, rfl, r1'⟩ := r1.one'
    have h1 := g.deref r1'
    unfold rList1 at q
    dsimp only at q
    revert q h1
    generalize Kf.deref O x = ex
    intro q h1
    cases ex <;> first | exact q.elim | skip
    · simp only [RepH, Rep] at h1
      obtain ⟨c, xs, rfl, h1, h2⟩ := h1
      exact ⟨_, call_list_of, c, xs, rfl, .inr (Same.seqT g.fz h1), fun p hp => po.lst g q h2 hp⟩
    · obtain ⟨c, xs, rfl, h1, h2⟩ := h1
      exact ⟨_, call_list_of, c, xs, rfl, .inl (SqL.of h1), fun p hp => po.lst g q h2 hp⟩
theorem cd_list1O : CallD M X (.type "list") rList1O := by
  refine callD_of fun F P H O xs ds R Q g r1 q po => ?_
  match ds, q with
  | [x], q =>
    obtain ⟨v, rfl, r1'⟩ := r1.one'
    have h1 := g.deref r1'
    unfold rList1O at q
    dsimp only at q
    revert q h1
    generalize Kf.deref O x = ex
    intro q h1
    cases ex <;> first | exact q.elim | skip
    · simp only [RepH, Rep] at h1
      obtain ⟨c, xs, rfl, h1, h2⟩ := h1
      exact ⟨_, call_list_of, c, xs, rfl, .inr (Same.seqT g.fz h1), fun p hp => po.lstO g q h2 hp⟩
    · obtain ⟨c, xs, rfl, h1, h2⟩ := h1
      exact ⟨_, call_list_of, c, xs, rfl, .inl (SqL.of h1), fun p hp => po.lstO g q h2 hp⟩
theorem cd_tup1 : CallD M X (.type "tuple") rTup1 := by
  refine callD_of fun F P H O xs ds R Q g r1 q po => ?_
  match ds, q with
  | [x], q =>
    obtain ⟨v, rfl, r1'⟩ := r1.one'
    have h1 := g.deref r1'
    unfold rTup1 at q
    dsimp only at q
    revert q h1
    generalize Kf.deref O x = ex
    intro q h1
    cases ex <;> first | exact q.elim | skip
    · have h0 := h1
      simp only [RepH, Rep] at h1
      obtain ⟨c, xs, rfl, h1, h2⟩ := h1
      exact ⟨_, call_tuple_of, c, xs, rfl, .inr ⟨Same.seqT g.fz h1, po.at g q h0⟩⟩
    · obtain ⟨c, xs, rfl, h1, h2⟩ := h1
      exact ⟨_, call_tuple_of, c, xs, rfl, .inl ⟨SqL.of h1, fun p hp => po.tup g q h2 hp⟩⟩
/-- sum of a list of ints -/
def asInts : List D → Option (List Int)
  | [] => some []
  | .int i :: ds => (asInts ds).map (i :: ·)
  | _ :: _ => none
theorem asInts_map (ns : List Int) : asInts (ns.map D.int) = some ns := by
  induction ns with
  | nil => rfl
  | cons n ns ih => rw [List.map_cons, asInts, ih]; rfl
theorem of_asInts : ∀ {ds : List D} {ns : List Int}, asInts ds = some ns → ds = ns.map D.int
  | [], ns, h => by cases h; rfl
  | d :: ds, ns, h => by
    cases d <;> simp only [asInts] at h <;> first | cases h | skip
    obtain ⟨m, h1, rfl⟩ := Option.map_eq_some_iff.mp h
    rw [of_asInts h1]; rfl
def rSumD : RAD := fun ds O Q => match ds with
  | [x] => match deref O x with
    | .lst ds => match asInts ds with
      | some ns => Q (.int ns.sum) O
      | none => False
    | _ => False
  | _ => False
theorem cd_sum (hc : X.calm = true) : CallD M X (.builtin "sum") rSumD := by
  refine callD_of fun F P H O xs ds R Q g r1 q po => ?_
  match ds, q with
  | [x], q =>
    obtain ⟨v, rfl, r1'⟩ := r1.one'
    have h1 := g.deref r1'
    unfold rSumD at q
    dsimp only at q
    revert q h1
    generalize Kf.deref O x = ex
    intro q h1
    cases ex <;> first | exact q.elim | skip
    rename_i ds
    obtain ⟨c, xs, rfl, h1, h2⟩ := h1
    dsimp only at q
    cases e : asInts ds with
    | none => rw [e] at q; exact q.elim
    | some ns =>
      rw [e] at q
      rw [of_asInts e] at h2
      have e3 := h2.ints
      subst e3
      exact ⟨_, cr_sum hc, c, ns, rfl, SqL.of h1, po.at g q (by simp only [Rep])⟩
/-- divmod: a new tuple -/
def rDivmod : RAD := fun ds O Q => match ds with
  | [.int i, .int j] => CDv i j ∧ Q (.tup [.int (i / j), .int (i % j)]) O
  | _ => False
theorem call_divmodW : CallR X (.builtin "divmod") (fun xs H Q => ∃ i j, xs = [.int i, .int j] ∧ CDv i j ∧ ∀ p, H p = none → Q (.ref p) (upd H p (.tup [.int (i / j), .int (i % j)]))) := by
  intro pins s σ H xs us Q I r h
  obtain ⟨i, j, rfl, c, q⟩ := h
  obtain ⟨u, w', rfl, ⟨t, rfl⟩, ⟨t', rfl⟩⟩ := vals2 r
  have h1 : (0 : Int) < j := c.1
  refine divmod_int (by omega) ?_ (.inl (PyProof.noPylong_of_log2 c.w.2))
  rw [Int.fdiv_eq_ediv_of_nonneg i (by omega), Int.fmod_eq_emod_of_nonneg i (by omega)]
  have hn : H s.heap.objs.size = none := I.hok.fresh (Nat.le_refl _)
  refine ⟨.ref s.heap.objs.size, _, ?_, rfl, q _ hn⟩
  refine I.laid (fun b o e => Heap.get?_push_of_some _ e) (Nat.le_refl _) ⟨show 2 ≤ sizeLine by decide, [.int (i / j) s.toks, .int (i % j) (s.toks + 1)], .cons ⟨_, rfl⟩ (.cons ⟨_, rfl⟩ .nil), ?_⟩
  exact ⟨_, Heap.get?_push_size s.heap rfl, rfl, 0, rfl⟩
theorem cd_divmod : CallD M X (.builtin "divmod") rDivmod := by
  refine callD_of fun F P H O xs ds R Q g r1 q po => ?_
  unfold rDivmod at q
  split at q
  · obtain ⟨v, w, rfl, h1, h2⟩ := r1.two'
    simp only [Rep] at h1 h2
    subst h1 h2
    exact ⟨_, call_divmodW, _, _, rfl, q.1, fun p hp => po.tup g q.2 (.cons (by simp only [Rep]) (.one (by simp only [Rep]))) hp⟩
  · exact q.elim
/-! ### isinstance -/
def tyNm (O : Ow) : D → String
  | .non => "NoneType"
  | .bl _ => "bool"
  | .int _ => "int"
  | .str _ => "str"
  | .tup _ => "tuple"
  | .lst _ => "list"
  | .edic => "dict"
  | .ref a => match O a with
    | some (.lst _) => "list"
    | some .pool => "list"
    | some (.dic _) => "dict"
    | _ => ""
  | _ => ""
def insOf (t n : String) : Bool := t == n || (t == "bool" && n == "int")
def insTy : List String := ["NoneType", "bool", "int", "str", "tuple", "list", "dict"]
def insCl : List String := ["bool", "int", "str", "tuple", "list", "dict"]
theorem ins_kit : (insTy.all fun t => insCl.all fun n => decide (kitB t n = some (insOf t n))) = true := by decide +kernel
theorem ins_kit' {t n : String} (ht : t ∈ insTy) (hn : n ∈ insCl) : kitB t n = some (insOf t n) := by
  have h := List.all_eq_true.mp (List.all_eq_true.mp ins_kit t ht) n hn
  exact of_decide_eq_true h
def rIsiD : RAD := fun ds O Q => match ds with
  | [x, .ty n] => insCl.contains n = true ∧ insTy.contains (tyNm O x) = true ∧ Q (.bl (insOf (tyNm O x) n)) O
  | _ => False
theorem tyX_of {K : PySem.W.Frag} {F P H : Hp} {O : Ow} {d : D} {v : V} (g : Gd M K F O P H) (r : Rep K F d v) (h : insTy.contains (tyNm O d) = true) : TyX K H v (.type (tyNm O d)) := by
  cases d with
  | non => simp only [Rep] at r; subst r; exact .base .non
  | bl b => simp only [Rep] at r; subst r; exact .base (.bl b)
  | int i => simp only [Rep] at r; subst r; exact .base (.int i)
  | str x => simp only [Rep] at r; subst r; exact .base (.str x)
  | tup ds =>
    simp only [Rep] at r
    obtain ⟨a, xs, rfl, h1, _⟩ := r
    rcases h1 with (h1 | ⟨o, h1⟩) | ⟨o, its, n, h1, h2, _⟩
    · exact .base (.tup (g.fz _ _ h1))
    · exact .fTuple (g.fz _ _ h1)
    · exact .kTuple h1 h2
  | lst ds =>
    simp only [Rep] at r
    obtain ⟨a, xs, rfl, h1, _⟩ := r
    exact .base (.lst (g.fz _ _ h1))
  | edic =>
    simp only [Rep] at r
    obtain ⟨a, rfl, h1⟩ := r
    exact .base (.dK (g.fz _ _ h1))
  | ref a =>
    simp only [Rep] at r
    subst r
    cases e : O a with
    | none =>
      have z : tyNm O (.ref a) = "" := by simp only [tyNm, e]
      rw [z] at h; exact absurd h (by decide)
    | some c =>
      have q := (g.ow a c e).2.2
      cases c with
      | lst ds =>
        have z : tyNm O (.ref a) = "list" := by simp only [tyNm, e]
        rw [z]; obtain ⟨vs, q, _⟩ := q; exact .base (.lst q)
      | pool =>
        have z : tyNm O (.ref a) = "list" := by simp only [tyNm, e]
        rw [z]; obtain ⟨x, y, q, _⟩ := q; exact .base (.lst q)
      | dic kvs =>
        have z : tyNm O (.ref a) = "dict" := by simp only [tyNm, e]
        rw [z]; obtain ⟨vs, q, _⟩ := q; exact .base (.dK q)
      | dicL kvs o =>
        have z : tyNm O (.ref a) = "" := by simp only [tyNm, e]
        rw [z] at h; exact absurd h (by decide)
      | exc _ _ =>
        have z : tyNm O (.ref a) = "" := by simp only [tyNm, e]
        rw [z] at h; exact absurd h (by decide)
      | ins _ _ =>
        have z : tyNm O (.ref a) = "" := by simp only [tyNm, e]
        rw [z] at h; exact absurd h (by decide)
  | ty n => simp [tyNm, insTy] at h
  | scr ns => simp [tyNm, insTy] at h
theorem cd_isi : CallD M X (.builtin "isinstance") rIsiD := by
  refine callD_of fun F P H O xs ds R Q g r1 q po => ?_
  unfold rIsiD at q
  split at q
  · obtain ⟨v, w, rfl, h1, h2⟩ := r1.two'
    simp only [Rep] at h2
    subst h2
    obtain ⟨q1, q2, q3⟩ := q
    exact ⟨_, call_isi, _, _, _, _, _, rfl, .ty _, tyX_of g h1 q2, kit_ty (ins_kit' (by simpa using q2) (by simpa using q1)), po.at g q3 (by simp only [Rep])⟩
  · exact q.elim
/-! ### methods of built-in types -/
abbrev RMD := D → List D → Ow → VD → Prop
def liftRM (M : MX) (K : PySem.W.Frag) (r : RMD) : V → List V → Hp → VK → Prop := fun x xs H Q => ∃ F O P dx ds R, Gd M K F O P H ∧ Rep K F dx x ∧ RepAll K F ds xs ∧ r dx ds O R ∧ PostE M K F P R Q
abbrev MtD (M : MX) (X : Cx) (id : String) (r : RMD) : Prop := MtR X id (liftRM M X.K r)
def tyOk (T : String) (O : Ow) (d : D) : Bool := T == "list" && tyNm O d == "list" || T == "str" && tyNm O d == "str"
theorem tyV_of {K : PySem.W.Frag} {F P H : Hp} {O : Ow} {d : D} {v : V} {T : String} (g : Gd M K F O P H) (r : Rep K F d v) (h : tyOk T O d = true) : tyV K T v H := by
  unfold tyOk at h
  rw [Bool.or_eq_true, Bool.and_eq_true, Bool.and_eq_true] at h
  rcases h with ⟨h1, h2⟩ | ⟨h1, h2⟩
  · have e1 : T = "list" := by simpa using h1
    have e2 : tyNm O d = "list" := by simpa using h2
    subst e1
    cases d <;> first | (simp [tyNm] at e2; done) | skip
    · simp only [Rep] at r
      obtain ⟨a, xs, rfl, q, _⟩ := r
      exact Or.inl ⟨rfl, xs, SqL.of (g.fz _ _ q)⟩
    · rename_i a
      simp only [Rep] at r
      subst r
      cases e : O a with
      | none => simp [tyNm, e] at e2
      | some c =>
        have q := (g.ow a c e).2.2
        cases c with
        | lst ds => obtain ⟨vs, q, _⟩ := q; exact Or.inl ⟨rfl, vs, SqL.of q⟩
        | pool => obtain ⟨x, y, q, _⟩ := q; exact Or.inl ⟨rfl, _, SqL.of q⟩
        | dic _ => simp [tyNm, e] at e2
        | dicL _ _ => simp [tyNm, e] at e2
        | exc _ _ => simp [tyNm, e] at e2
        | ins _ _ => simp [tyNm, e] at e2
  · have e1 : T = "str" := by simpa using h1
    have e2 : tyNm O d = "str" := by simpa using h2
    subst e1
    cases d <;> first | (simp [tyNm] at e2; done) | skip
    · simp only [Rep] at r; subst r; rfl
    · rename_i a
      cases e : O a with
      | none => simp [tyNm, e] at e2
      | some c => cases c <;> simp [tyNm, e] at e2
def fBM (T : String) (r : RMD) (fo : FE) (fr : FA) : FE := fun ρ O Q => fo ρ O fun x O1 => tyOk T O1 x = true ∧ fr ρ O1 fun ds O2 => r x ds O2 Q
def fBM0 (T : String) (r : RMD) (fo : FE) : FE := fun ρ O Q => fo ρ O fun x O1 => tyOk T O1 x = true ∧ r x [] O1 Q
variable {o : Expr} {fo : FE} {name : Str} {apos cpos : Pos} {T id : String} {r : RMD}
theorem de_bm (pa : PlainAttrs T) (slot : Slot T name id) (hty : typeOf (.builtin id) = pure (.type "method_descriptor")) (hm : MtD M X id r) (ho : DE M X o fo) (ha : DA M X (e :: es) fr)
    (hbase : attributeBase o name X.env (eval o X.env) = eval o X.env := by rfl)
    (hfew : ((backTo cpos (starEach (e :: es) X.env)).all (fun x => !x.1) && (backToKw cpos (keywordEach [] X.env)).all (fun x => x.1.isSome)
      && decide ((e :: es).length + ([] : List Keyword).length + (if ([] : List Keyword).isEmpty then 0 else 1) < 30)) = true := by rfl)
    (hline : (apos.endLine == cpos.line) = true := by rfl) (hs : starEach (e :: es) X.env = (false, eval e X.env) :: starEach es X.env := by rfl) (hplain : (backTo cpos (starEach es X.env)).any (·.1) = false := by rfl) :
    DE M X (.Call (.Attribute o name apos) (e :: es) [] cpos) (fBM T r fo fr) := by
  refine peMono (pe_bm pa slot hty hm ho ha hbase hfew hline hs hplain) fun σ H Q h => ?_
  obtain ⟨F, O, P, ρ, R, g, en, q, po⟩ := h
  refine ⟨F, O, P, ρ, _, g, en, q, fun x O1 F1 H1 v q1 s1 g1 r1 => ⟨tyV_of g1 r1 q1.1, ?_⟩⟩
  refine ⟨F1, O1, P, ρ, _, g1, en.mono s1, q1.2, fun ds O2 F2 H2 vs q2 s2 g2 r2 => ?_⟩
  exact ⟨F2, O2, P, x, ds, R, g2, r1.mono s2, r2, q2, po.more (s1.trans s2)⟩
theorem de_bm0 (pa : PlainAttrs T) (slot : Slot T name id) (hty : typeOf (.builtin id) = pure (.type "method_descriptor")) (hm : MtD M X id r) (ho : DE M X o fo)
    (hbase : attributeBase o name X.env (eval o X.env) = eval o X.env := by rfl) (hline : (apos.endLine == cpos.line) = true := by rfl) : DE M X (.Call (.Attribute o name apos) [] [] cpos) (fBM0 T r fo) := by
  refine peMono (pe_bm0 pa slot hty hm ho hbase hline) fun σ H Q h => ?_
  obtain ⟨F, O, P, ρ, R, g, en, q, po⟩ := h
  refine ⟨F, O, P, ρ, _, g, en, q, fun x O1 F1 H1 v q1 s1 g1 r1 => ⟨tyV_of g1 r1 q1.1, ?_⟩⟩
  exact ⟨F1, O1, P, x, [], R, g1, r1, .nil, q1.2, po.more s1⟩
theorem mtD_of {id : String} {r : RMD}
    (h : ∀ (F P H : Hp) (O : Ow) (x : V) (xs : List V) (dx : D) (ds : List D) (R : VD) (Q : VK), Gd M X.K F O P H → Rep X.K F dx x → RepAll X.K F ds xs → r dx ds O R → PostE M X.K F P R Q → ∃ r0, MtR X id r0 ∧ r0 x xs H Q) : MtD M X id r := by
  intro pins s σ H x xs v us Q I rx rxs q
  obtain ⟨F, O, P, dx, ds, R, g, r1, r2, q, po⟩ := q
  obtain ⟨r0, o, z⟩ := h F P H O x xs dx ds R Q g r1 r2 q po
  exact o pins s σ H x xs v us Q I rx rxs z
/-- xs.append(y), an owned list -/
def rAppendD : RMD := fun x ds O Q => match x, ds with
  | .ref a, [y] => match O a with
    | some (.lst xs) => xs.length < sizeLine ∧ Q .non (updO O a (.lst (xs ++ [y])))
    | _ => False
  | _, _ => False
theorem md_append : MtD M X "list.append" rAppendD := by
  refine mtD_of fun F P H O x xs dx ds R Q g r1 r2 q po => ?_
  unfold rAppendD at q
  split at q
  · rename_i a y
    obtain ⟨v, rfl, r2'⟩ := r2.one'
    simp only [Rep] at r1
    subst r1
    cases e : O a with
    | none => rw [e] at q; exact q.elim
    | some c =>
      rw [e] at q
      cases c with
      | pool => exact q.elim
      | dic _ => exact q.elim
      | dicL _ _ => exact q.elim
      | exc _ _ => exact q.elim
      | ins _ _ => exact q.elim
      | lst zs =>
        obtain ⟨_, _, vs, h1, h2⟩ := g.ow a _ e
        refine ⟨_, mt_append, a, vs, v, rfl, rfl, h1, by rw [← h2.length]; exact q.1, ?_⟩
        exact po .non _ F _ _ q.2 (Same.refl _) (g.setO e ⟨_, upd_same, h2.append (.one r2')⟩) (by simp only [Rep])
  · exact q.elim
/-- xs.extend(ys) -/
def rExtendD : RMD := fun x ds O Q => match x, ds with
  | .ref a, [y] => match O a, deref O y with
    | some (.lst xs), .lst ys => xs.length + ys.length ≤ sizeLine ∧ Q .non (updO O a (.lst (xs ++ ys)))
    | _, _ => False
  | _, _ => False
theorem md_extend : MtD M X "list.extend" rExtendD := by
  refine mtD_of fun F P H O x xs dx ds R Q g r1 r2 q po => ?_
  unfold rExtendD at q
  split at q
  · rename_i a y
    obtain ⟨v, rfl, r2'⟩ := r2.one'
    simp only [Rep] at r1
    subst r1
    have h2 := g.deref r2'
    revert q h2
    generalize Kf.deref O y = ey
    intro q h2
    cases e : O a with
    | none => rw [e] at q; exact q.elim
    | some c =>
      rw [e] at q
      cases c with
      | pool => exact q.elim
      | dic _ => exact q.elim
      | dicL _ _ => exact q.elim
      | exc _ _ => exact q.elim
      | ins _ _ => exact q.elim
      | lst zs =>
        cases ey <;> first | exact q.elim | skip
        obtain ⟨b, ws, rfl, h3, h4⟩ := h2
        obtain ⟨_, _, vs, h5, h6⟩ := g.ow a _ e
        refine ⟨_, mt_extend, a, b, vs, ws, rfl, rfl, h5, h3, by rw [← h6.length, ← h4.length]; exact q.1, ?_⟩
        exact po .non _ F _ _ q.2 (Same.refl _) (g.setO e ⟨_, upd_same, h6.append h4⟩) (by simp only [Rep])
  · exact q.elim
/-- xs.pop() -/
def rPopD : RMD := fun x ds O Q => match x, ds with
  | .ref a, [] => match O a with
    | some (.lst xs) => match xs[xs.length - 1]? with
      | some d => Q d (updO O a (.lst xs.dropLast))
      | none => False
    | _ => False
  | _, _ => False
theorem RepAll.dropLast {K : PySem.W.Frag} {F : Hp} {ds : List D} {vs : List V} (h : RepAll K F ds vs) : RepAll K F ds.dropLast vs.dropLast := by
  rw [List.dropLast_eq_take, List.dropLast_eq_take, h.length]
  exact h.take _
theorem md_pop : MtD M X "list.pop" rPopD := by
  refine mtD_of fun F P H O x xs dx ds R Q g r1 r2 q po => ?_
  unfold rPopD at q
  split at q
  · rename_i a
    simp only [RepAll] at r2
    subst r2
    simp only [Rep] at r1
    subst r1
    cases e : O a with
    | none => rw [e] at q; exact q.elim
    | some c =>
      rw [e] at q
      cases c with
      | pool => exact q.elim
      | dic _ => exact q.elim
      | dicL _ _ => exact q.elim
      | exc _ _ => exact q.elim
      | ins _ _ => exact q.elim
      | lst zs =>
        dsimp only at q
        obtain ⟨_, _, vs, h1, h2⟩ := g.ow a _ e
        cases e2 : zs[zs.length - 1]? with
        | none => rw [e2] at q; exact q.elim
        | some d =>
          rw [e2] at q
          obtain ⟨v, e3, r3⟩ := h2.get e2
          refine ⟨_, mt_pop, a, vs, v, rfl, rfl, h1, by rw [← h2.length]; exact e3, ?_⟩
          exact po d _ F _ _ q (Same.refl _) (g.setO e ⟨_, upd_same, h2.dropLast⟩) r3
  · exact q.elim
/-- sep.join(xs) -/
def asStrs : List D → Option (List Str)
  | [] => some []
  | .str i :: ds => (asStrs ds).map (i :: ·)
  | _ :: _ => none
theorem asStrs_map (ns : List Str) : asStrs (ns.map D.str) = some ns := by
  induction ns with
  | nil => rfl
  | cons n ns ih => rw [List.map_cons, asStrs, ih]; rfl
theorem of_asStrs : ∀ {ds : List D} {ns : List Str}, asStrs ds = some ns → ds = ns.map D.str
  | [], ns, h => by cases h; rfl
  | d :: ds, ns, h => by
    cases d <;> simp only [asStrs] at h <;> first | cases h | skip
    obtain ⟨m, h1, rfl⟩ := Option.map_eq_some_iff.mp h
    rw [of_asStrs h1]; rfl
end
end Kf
namespace Kf
open PySem PySem.Spec L2
open PyProof.Rows hiding St
variable {M : MX}

/-! ### statements -/
structure DEnds where
  nx : DEnv → Ow → Prop
  rt : VD
  bk : DEnv → Ow → Prop := fun _ _ => False
  ct : DEnv → Ow → Prop := fun _ _ => False
abbrev GS := DEnds → DEnv → Ow → Prop
def PostN (M : MX) (K : PySem.W.Frag) (F P : Hp) (R : DEnv → Ow → Prop) (Q : L2.St → Hp → Prop) : Prop := ∀ ρ O' F' H' σ, R ρ O' → Same F F' → Gd M K F' O' P H' → EnvOk K F' ρ σ → Q σ H'
structure PostS (M : MX) (K : PySem.W.Frag) (F P : Hp) (R : DEnds) (D : Ends) : Prop where
  nx : PostN M K F P R.nx D.nx
  rt : PostE M K F P R.rt D.rt
  bk : PostN M K F P R.bk D.bk
  ct : PostN M K F P R.ct D.ct
theorem PostN.more {K : PySem.W.Frag} {F F' P : Hp} {R : DEnv → Ow → Prop} {Q : L2.St → Hp → Prop} (po : PostN M K F P R Q) (s : Same F F') : PostN M K F' P R Q := fun ρ O' F2 H' σ q s2 g en => po ρ O' F2 H' σ q (s.trans s2) g en
theorem PostS.more {K : PySem.W.Frag} {F F' P : Hp} {R : DEnds} {D : Ends} (po : PostS M K F P R D) (s : Same F F') : PostS M K F' P R D := ⟨po.nx.more s, po.rt.more s, po.bk.more s, po.ct.more s⟩
def liftS (M : MX) (K : PySem.W.Frag) (g : GS) : TS := fun D σ H => ∃ F O P ρ R, Gd M K F O P H ∧ EnvOk K F ρ σ ∧ g R ρ O ∧ PostS M K F P R D
abbrev DS (M : MX) (X : Cx) (st : Stmt) (g : GS) : Prop := PS X st (liftS M X.K g)
abbrev DSs (M : MX) (X : Cx) (st : List Stmt) (g : GS) : Prop := PSs X st (liftS M X.K g)

section
variable {X : Cx} {st : Stmt} {rest : List Stmt} {g u : GS} {e c : Expr} {fe : FE} {ft : FT} {pos : Pos}
def gNext : GS := fun R ρ O => R.nx ρ O
def gSeq (g u : GS) : GS := fun R ρ O => g { R with nx := u R } ρ O
theorem dss_nil : DSs M X [] gNext := pssMono pss_nil fun D σ H h => by
  obtain ⟨F, O, P, ρ, R, g, en, q, po⟩ := h
  exact po.nx ρ O F H σ q (Same.refl _) g en
theorem dss_cons (h1 : DS M X st g) (h2 : DSs M X rest u) : DSs M X (st :: rest) (gSeq g u) := pssMono (pss_cons h1 h2) fun D σ H h => by
  obtain ⟨F, O, P, ρ, R, g, en, q, po⟩ := h
  exact ⟨F, O, P, ρ, { R with nx := u R }, g, en, q, fun ρ' O' F' H' σ' q' s g' en' => ⟨F', O', P, ρ', R, g', en', q', po.more s⟩, po.rt, po.bk, po.ct⟩
theorem dss_one (h1 : DS M X st g) : DSs M X [st] g := pss_one h1
theorem ds_pass : DS M X (.Pass pos) gNext := psMono ps_pass fun D σ H h => by
  obtain ⟨F, O, P, ρ, R, g, en, q, po⟩ := h
  exact po.nx ρ O F H σ q (Same.refl _) g en
/-- what is never come to -/
def gNever : GS := fun _ _ _ => False
theorem ds_never : DS M X st gNever := psMono ps_never fun D σ H h => by
  obtain ⟨F, O, P, ρ, R, g, en, q, po⟩ := h
  exact q
def gBreak : GS := fun R ρ O => R.bk ρ O
theorem ds_break : DS M X (.Break pos) gBreak := psMono ps_break fun D σ H h => by
  obtain ⟨F, O, P, ρ, R, g, en, q, po⟩ := h
  exact po.bk ρ O F H σ q (Same.refl _) g en
def gDrop (fe : FE) : GS := fun R ρ O => fe ρ O fun _ O1 => R.nx ρ O1
theorem ds_expr (he : DE M X e fe) (hs : swapsWith e none pos.line X.env = pure false := by rfl) : DS M X (.Expr e pos) (gDrop fe) := psMono (ps_expr he hs) fun D σ H h => by
  obtain ⟨F, O, P, ρ, R, g, en, q, po⟩ := h
  exact ⟨F, O, P, ρ, _, g, en, q, fun d O1 F1 H1 v q1 s1 g1 _ => po.nx ρ O1 F1 H1 σ q1 s1 g1 (en.mono s1)⟩
def gRet (fe : FE) : GS := fun R ρ O => fe ρ O R.rt
theorem ds_ret (he : DE M X e fe) : DS M X (.Return (some e) pos) (gRet fe) := psMono (ps_ret he) fun D σ H h => by
  obtain ⟨F, O, P, ρ, R, g, en, q, po⟩ := h
  exact ⟨F, O, P, ρ, R.rt, g, en, q, po.rt⟩
/-- an owned list is handed back: from now on it never changes -/
def gRetF (fe : FE) : GS := fun R ρ O => fe ρ O fun d O1 => match d with
  | .ref a => match O1 a with
    | some (.lst ds) => R.rt (.lst ds) (delO O1 a)
    | _ => False
  | _ => False
theorem ds_retF (he : DE M X e fe) : DS M X (.Return (some e) pos) (gRetF fe) := psMono (ps_ret he) fun D σ H h => by
  obtain ⟨F, O, P, ρ, R, g, en, q, po⟩ := h
  refine ⟨F, O, P, ρ, _, g, en, q, fun d O1 F1 H1 v q1 s1 g1 r1 => ?_⟩
  split at q1 <;> first | exact q1.elim | skip
  rename_i a
  split at q1 <;> first | exact q1.elim | skip
  rename_i ds e1
  simp only [Rep] at r1
  subst r1
  obtain ⟨F2, s2, g2, r2⟩ := g1.freeze e1
  exact po.rt (.lst ds) (delO O1 a) F2 H1 (.ref a) q1 (s1.trans s2) g2 r2
def gRetN : GS := fun R _ O => R.rt .non O
theorem ds_retN : DS M X (.Return none pos) gRetN := psMono ps_retN fun D σ H h => by
  obtain ⟨F, O, P, ρ, R, g, en, q, po⟩ := h
  exact po.rt.at g q (by simp only [Rep])
def gIf (c : FT) (g u : GS) : GS := fun R ρ O => c ρ O fun b O1 => if b = true then g R ρ O1 else u R ρ O1
theorem ds_if {a b : List Stmt} (hc : DT M X c ft) (ha : DSs M X a g) (hb : DSs M X b u) : DS M X (.If c a b pos) (gIf ft g u) := psMono (ps_if hc ha hb) fun D σ H h => by
  obtain ⟨F, O, P, ρ, R, g, en, q, po⟩ := h
  refine ⟨F, O, P, ρ, _, g, en, q, fun k O1 F1 H1 q1 s1 g1 => ?_⟩
  cases k with
  | true => rw [if_pos rfl] at q1 ⊢; exact ⟨F1, O1, P, ρ, R, g1, en.mono s1, q1, po.more s1⟩
  | false => rw [if_neg Bool.false_ne_true] at q1 ⊢; exact ⟨F1, O1, P, ρ, R, g1, en.mono s1, q1, po.more s1⟩
/-- an owned list in slot i never changes from now on -/
def gFrz (i : Nat) (g : GS) : GS := fun R ρ O => match ρ[i]? with
  | some (some (.ref a)) => match O a with
    | some (.lst ds) => g R (ρ.set i (some (.lst ds))) (delO O a)
    | _ => False
  | _ => False
theorem EnvOk.frz {K : PySem.W.Frag} {F F' : Hp} {ρ : DEnv} {σ : L2.St} {i : Nat} {a : Addr} {d : D} (h : EnvOk K F ρ σ) (s : Same F F') (e : ρ[i]? = some (some (.ref a))) (r : Rep K F' d (.ref a)) : EnvOk K F' (ρ.set i (some d)) σ := by
  obtain ⟨v, e1, r1⟩ := h.2 i _ e
  simp only [Rep] at r1
  subst r1
  refine ⟨by rw [List.length_set]; exact h.1, fun j d' q => ?_⟩
  by_cases c : i = j
  · subst c
    by_cases hl : i < ρ.length
    · rw [List.getElem?_set_self hl] at q
      cases q
      exact ⟨.ref a, e1, r⟩
    · rw [List.getElem?_eq_none (by rw [List.length_set]; omega)] at q; cases q
  · rw [List.getElem?_set_ne c] at q
    exact (h.mono s).2 j d' q
theorem liftS_frz {i : Nat} : ∀ D σ H, liftS M X.K (gFrz i g) D σ H → liftS M X.K g D σ H := fun D σ H h => by
  obtain ⟨F, O, P, ρ, R, gd, en, q, po⟩ := h
  unfold gFrz at q
  split at q
  · rename_i a e1
    split at q
    · rename_i ds e2
      obtain ⟨F2, s2, g2, r2⟩ := gd.freeze e2
      exact ⟨F2, delO O a, P, _, R, g2, en.frz s2 e1 r2, q, po.more s2⟩
    · exact q.elim
  · exact q.elim
theorem dss_frz (i : Nat) (h : DSs M X rest g) : DSs M X rest (gFrz i g) := pssMono h liftS_frz

/-! ### targets -/
inductive Pat where
  | nm (i : Nat)
  | tp (ps : List Pat)
mutual
def patT (K : PySem.W.Frag) : Pat → TG
  | .nm i => gName i
  | .tp ps => gTup K ps.length (patTs K ps)
def patTs (K : PySem.W.Frag) : List Pat → TGs
  | [] => gNil
  | p :: ps => gCons (patT K p) (patTs K ps)
end
mutual
def patD : Pat → D → DEnv → Option DEnv
  | .nm i, d, ρ => some (ρ.set i (some d))
  | .tp ps, .tup ds, ρ => patDs ps ds ρ
  | .tp _, _, _ => none
def patDs : List Pat → List D → DEnv → Option DEnv
  | [], [], ρ => some ρ
  | p :: ps, d :: ds, ρ => (patD p d ρ).bind (patDs ps ds)
  | _, _, _ => none
end
mutual
def patI : Pat → List Nat
  | .nm i => [i]
  | .tp ps => patIs ps
def patIs : List Pat → List Nat
  | [] => []
  | p :: ps => patI p ++ patIs ps
end
/-- the two states are alike but at some slots -/
def Off (vs : List Nat) (σ σ' : L2.St) : Prop := σ.length = σ'.length ∧ ∀ i, i ∉ vs → σ'[i]? = σ[i]?
theorem patDs_length : ∀ {ps : List Pat} {ds : List D} {ρ ρ' : DEnv}, patDs ps ds ρ = some ρ' → ps.length = ds.length
  | [], [], _, _, _ => rfl
  | [], _ :: _, _, _, h => by simp only [patDs] at h; cases h
  | _ :: _, [], _, _, h => by simp only [patDs] at h; cases h
  | p :: ps, d :: ds, ρ, ρ', h => by
    simp only [patDs] at h
    obtain ⟨ρ1, h1, h2⟩ := Option.bind_eq_some_iff.mp h
    rw [List.length_cons, List.length_cons, patDs_length h2]
mutual
theorem pat_ok {K : PySem.W.Frag} {F P H : Hp} {O : Ow} (gd : Gd M K F O P H) : ∀ (p : Pat) (d : D) (v : V) (ρ ρ' : DEnv) (σ : L2.St) (Q : L2.St → Hp → Prop), patD p d ρ = some ρ' → Rep K F d v → EnvOk K F ρ σ →
    (∀ σ', EnvOk K F ρ' σ' → Off (patI p) σ σ' → Q σ' H) → patT K p v σ H Q
  | .nm i, d, v, ρ, ρ', σ, Q, h, r, en, q => by
    simp only [patD] at h
    cases h
    simp only [patT]
    refine q _ (en.set r i) ⟨by rw [List.length_set], fun j hj => ?_⟩
    simp only [patI, List.mem_singleton] at hj
    rw [List.getElem?_set_ne (fun e => hj e.symm)]
  | .tp ps, d, v, ρ, ρ', σ, Q, h, r, en, q => by
    cases d <;> simp only [patD] at h <;> first | cases h | skip
    simp only [Rep] at r
    obtain ⟨a, xs, rfl, r1, r2⟩ := r
    simp only [patT]
    refine ⟨a, xs, rfl, Same.seqT gd.fz r1, ?_, ?_⟩
    · rw [← r2.length, patDs_length h]
    · exact pats_ok gd ps _ xs ρ ρ' σ Q h r2 en fun σ' en' off => q σ' en' (by simpa only [patI] using off)
theorem pats_ok {K : PySem.W.Frag} {F P H : Hp} {O : Ow} (gd : Gd M K F O P H) : ∀ (ps : List Pat) (ds : List D) (vs : List V) (ρ ρ' : DEnv) (σ : L2.St) (Q : L2.St → Hp → Prop), patDs ps ds ρ = some ρ' → RepAll K F ds vs → EnvOk K F ρ σ →
    (∀ σ', EnvOk K F ρ' σ' → Off (patIs ps) σ σ' → Q σ' H) → patTs K ps vs σ H Q
  | [], [], vs, ρ, ρ', σ, Q, h, r, en, q => by
    simp only [patDs] at h
    cases h
    simp only [RepAll] at r
    subst r
    simp only [patTs]
    exact ⟨rfl, q σ en ⟨rfl, fun _ _ => rfl⟩⟩
  | [], _ :: _, _, _, _, _, _, h, _, _, _ => by simp only [patDs] at h; cases h
  | _ :: _, [], _, _, _, _, _, h, _, _, _ => by simp only [patDs] at h; cases h
  | p :: ps, d :: ds, vs, ρ, ρ', σ, Q, h, r, en, q => by
    simp only [patDs] at h
    obtain ⟨ρ1, h1, h2⟩ := Option.bind_eq_some_iff.mp h
    simp only [RepAll] at r
    obtain ⟨v, ws, rfl, r1, r2⟩ := r
    simp only [patTs]
    refine ⟨v, ws, rfl, ?_⟩
    refine pat_ok gd p d v ρ ρ1 σ _ h1 r1 en fun σ1 en1 off1 => ?_
    refine pats_ok gd ps ds ws ρ1 ρ' σ1 Q h2 r2 en1 fun σ2 en2 off2 => q σ2 en2 ⟨off1.1.trans off2.1, fun i hi => ?_⟩
    simp only [patIs, List.mem_append, not_or] at hi
    rw [off2.2 i hi.2, off1.2 i hi.1]
end
abbrev DP (X : Cx) (tg : Expr) (p : Pat) : Prop := PG X tg (patT X.K p)
abbrev DPs (X : Cx) (tgs : List Expr) (ps : List Pat) : Prop := PGs X tgs (patTs X.K ps)
theorem dp_name {i : Nat} {x : Str} (hN : X.N.Nodup) (hi : X.N[i]? = some x) (hx : Loc X.env.scope x) (hf : X.fn x = true ∨ X.env.scope.names.lookup x = some .local := by first | exact .inl rfl | exact .inr rfl | assumption) : DP X (.Name x pos) (.nm i) := by
  show PG X _ (patT X.K (.nm i))
  rw [show patT X.K (.nm i) = gName i by simp only [patT]]
  exact pg_name hN hi hx hf
theorem dps_nil : DPs X [] [] := by
  show PGs X _ (patTs X.K [])
  rw [show patTs X.K [] = gNil by simp only [patTs]]
  exact pgs_nil
theorem dps_cons {e : Expr} {es : List Expr} {p : Pat} {ps : List Pat} (h1 : DP X e p) (h2 : DPs X es ps)
    (hs : (assignEach (e :: es) X.env).map (·.2) = assign e X.env :: (assignEach es X.env).map (·.2) := by rfl) : DPs X (e :: es) (p :: ps) := by
  show PGs X _ (patTs X.K (p :: ps))
  rw [show patTs X.K (p :: ps) = gCons (patT X.K p) (patTs X.K ps) by simp only [patTs]]
  exact pgs_cons h1 h2 hs
theorem dp_tup {es : List Expr} {k : Nat} {ps : List Pat} (hc : X.calm = true) (h : DPs X es ps)
    (hn : (assignEach es X.env).length = ps.length := by rfl) (hst : (assignEach es X.env).findIdx? (·.1) = none := by rfl) : DP X (.Tuple es k pos) (.tp ps) := by
  show PG X _ (patT X.K (.tp ps))
  rw [show patT X.K (.tp ps) = gTup X.K ps.length (patTs X.K ps) by simp only [patT]]
  exact pg_tup hc h hn hst
def patGet (o : Option DEnv) (N : DEnv → Prop) : Prop := match o with
  | some ρ => N ρ
  | none => False
theorem patGet_s {ρ : DEnv} {N : DEnv → Prop} : patGet (some ρ) N = N ρ := rfl
/-- target = value -/
def gAsg (fe : FE) (p : Pat) : GS := fun R ρ O => fe ρ O fun d O1 => patGet (patD p d ρ) fun ρ' => R.nx ρ' O1
theorem ds_asg {tg e : Expr} {p : Pat} (he : DE M X e fe) (hg : DP X tg p) (hs : swapsWithSole [tg] e pos.line X.env = pure false := by rfl) (hw : swappedStores [tg] e X.env = pure none := by rfl) (h1 : (assignEach [tg] X.env).map (·.2) = [assign tg X.env] := by rfl) : DS M X (.Assign [tg] e pos) (gAsg fe p) :=
  psMono (ps_asg he hg hs hw h1) fun D σ H h => by
    obtain ⟨F, O, P, ρ, R, g, en, q, po⟩ := h
    refine ⟨F, O, P, ρ, _, g, en, q, fun d O1 F1 H1 v q1 s1 g1 r1 => ?_⟩
    cases e1 : patD p d ρ with
    | none => rw [e1] at q1; exact q1.elim
    | some ρ' =>
      rw [e1] at q1
      exact pat_ok g1 p d v ρ ρ' σ _ e1 r1 (en.mono s1) fun σ' en' _ => po.nx ρ' O1 F1 H1 σ' q1 s1 g1 en'
/-- name = value -/
def gSet (fe : FE) (i : Nat) : GS := fun R ρ O => fe ρ O fun d O1 => R.nx (ρ.set i (some d)) O1
theorem gSet_lift {te : TE} {i : Nat} (hl : ∀ σ H Q, liftE M X.K fe σ H Q → te σ H Q) : ∀ D σ H, liftS M X.K (gSet fe i) D σ H → tAsg te (gName i) D σ H := fun D σ H h => by
  obtain ⟨F, O, P, ρ, R, g, en, q, po⟩ := h
  exact hl _ _ _ ⟨F, O, P, ρ, _, g, en, q, fun d O1 F1 H1 v q1 s1 g1 r1 => po.nx _ O1 F1 H1 _ q1 s1 g1 ((en.mono s1).set r1 i)⟩
theorem ds_set {i : Nat} {x : Str} {e : Expr} {pos' : Pos} (hN : X.N.Nodup) (hi : X.N[i]? = some x) (hx : Loc X.env.scope x) (he : DE M X e fe) (hs : swapsWith e (some (.Name x pos')) pos.line X.env = pure false := by rfl) (hf : X.fn x = true ∨ X.env.scope.names.lookup x = some .local := by first | exact .inl rfl | exact .inr rfl | assumption) :
    DS M X (.Assign [.Name x pos'] e pos) (gSet fe i) := psMono (ps_set hN hi hx he hs hf) (gSet_lift fun _ _ _ q => q)
/-- name op= e -/
def gAug (i : Nat) (fe : FE) (r : R2D) : GS := fun R ρ O => match ρ[i]? with
  | some (some x) => fe ρ O fun y O1 => r x y O1 fun z O2 => R.nx (ρ.set i (some z)) O2
  | _ => False
theorem ds_aug {i : Nat} {x : Str} {e : Expr} {op : Operator} {r : R2D} {pos' : Pos} (hN : X.N.Nodup) (hi : X.N[i]? = some x) (hx : Loc X.env.scope x) (he : DE M X e fe) (ho : OpD M X (inplaceOp op) r) (hf : X.fn x = true ∨ X.env.scope.names.lookup x = some .local := by first | exact .inl rfl | exact .inr rfl | assumption) :
    DS M X (.AugAssign (.Name x pos') op e pos) (gAug i fe r) := psMono (ps_aug (ti := liftR2 M X.K r) hN hi hx he ho hf) fun D σ H h => by
  obtain ⟨F, O, P, ρ, R, g, en, q, po⟩ := h
  unfold gAug at q
  split at q <;> first | exact q.elim | skip
  rename_i d e1
  obtain ⟨v, e2, r2⟩ := en.2 i d e1
  refine ⟨v, e2, F, O, P, ρ, _, g, en, q, fun y O1 F1 H1 w q1 s1 g1 r1 => ?_⟩
  exact ⟨F1, O1, P, d, y, _, g1, r2.mono s1, r1, q1, fun z O2 F2 H2 zv q2 s2 g2 r3 => po.nx _ O2 F2 H2 _ q2 (s1.trans s2) g2 ((en.mono (s1.trans s2)).set r3 i)⟩
/-- o[i] = v, an owned list -/
def rSetD (x y d : D) (O : Ow) (N : Ow → Prop) : Prop := match x, y with
  | .ref a, .int k => match O a with
    | some (.lst ds) => match ixN ds.length k with
      | some j => N (updO O a (.lst (ds.set j d)))
      | none => False
    | some .pool => match d with
      | .int z => ((k = 0 ∧ 0 ≤ z) ∨ (k = 1 ∧ 0 ≤ z ∧ z < 2147483647)) ∧ N O
      | _ => False
    | _ => False
  | _, _ => False
def gSetIx (fo fi fe : FE) : GS := fun R ρ O => fe ρ O fun d O1 => fo ρ O1 fun x O2 => fi ρ O2 fun y O3 => rSetD x y d O3 (R.nx ρ)
theorem ds_setIx {o i e : Expr} {fo fi : FE} {p1 : Pos} (ho : DE M X o fo) (hi : DE M X i fi) (he : DE M X e fe)
    (ha : ∀ v, assign (.Subscript o i p1) X.env v = (do
      let ov ← holding [v] (eval o X.env)
      let iv ← holding [v, ov] (eval i X.env)
      standAt p1
      holding [v, ov, iv] (setItem ov iv v)
      release [v, ov, iv] []) := by intro _; rfl)
    (hs : swapsWithSole [.Subscript o i p1] e pos.line X.env = pure false := by rfl) (hw : swappedStores [.Subscript o i p1] e X.env = pure none := by rfl) : DS M X (.Assign [.Subscript o i p1] e pos) (gSetIx fo fi fe) :=
  psMono (ps_asg he (pg_sub ho hi set_list ha) hs hw) fun D σ H h => by
    obtain ⟨F, O, P, ρ, R, g, en, q, po⟩ := h
    refine ⟨F, O, P, ρ, _, g, en, q, fun d O1 F1 H1 v q1 s1 g1 r1 => ?_⟩
    refine ⟨F1, O1, P, ρ, _, g1, en.mono s1, q1, fun x O2 F2 H2 w q2 s2 g2 r2 => ?_⟩
    refine ⟨F2, O2, P, ρ, _, g2, en.mono (s1.trans s2), q2, fun y O3 F3 H3 z q3 s3 g3 r3 => ?_⟩
    unfold rSetD at q3
    cases x <;> first | exact q3.elim | skip
    cases y <;> first | exact q3.elim | skip
    rename_i a k
    simp only [Rep] at r2 r3
    subst r2 r3
    dsimp only at q3
    cases e1 : O3 a with
    | none => rw [e1] at q3; exact q3.elim
    | some c =>
      rw [e1] at q3
      cases c with
      | dic kvs => exact q3.elim
      | dicL _ _ => exact q3.elim
      | exc _ _ => exact q3.elim
      | ins _ _ => exact q3.elim
      | pool =>
        dsimp only at q3
        cases d <;> first | exact q3.elim | skip
        simp only [Rep] at r1
        subst r1
        obtain ⟨_, _, z, y, hH, h2, h3, h4⟩ := g3.ow a _ e1
        obtain ⟨q4, q5⟩ := q3
        have s4 := s1.trans (s2.trans s3)
        rcases q4 with ⟨rfl, h5⟩ | ⟨rfl, h5, h6⟩
        · refine ⟨a, _, 0, 0, rfl, rfl, hH, rfl, ?_⟩
          have g4 := g3.setO e1 (o := .lst [.int _, .int y]) (c := .pool) ⟨_, y, upd_same, h5, h3, h4⟩
          rw [updO_self e1] at g4
          exact po.nx ρ _ F3 _ σ q5 s4 g4 (en.mono s4)
        · refine ⟨a, _, 1, 1, rfl, rfl, hH, rfl, ?_⟩
          have g4 := g3.setO e1 (o := .lst [.int z, .int _]) (c := .pool) ⟨z, _, upd_same, h2, h5, h6⟩
          rw [updO_self e1] at g4
          exact po.nx ρ _ F3 _ σ q5 s4 g4 (en.mono s4)
      | lst ds =>
        dsimp only at q3
        cases e2 : ixN ds.length k with
        | none => rw [e2] at q3; exact q3.elim
        | some j =>
          rw [e2] at q3
          obtain ⟨_, _, vs, h1, h2⟩ := g3.ow a _ e1
          refine ⟨a, vs, k, j, rfl, rfl, h1, by rw [← h2.length]; exact e2, ?_⟩
          exact po.nx ρ _ F3 _ σ q3 (s1.trans (s2.trans s3)) (g3.setO e1 ⟨_, upd_same, h2.set (r1.mono (s2.trans s3)) j⟩) (en.mono (s1.trans (s2.trans s3)))

/-! ### what is walked -/
/-- the walk yields just these, whatever comes meanwhile -/
def ItOk (M : MX) (K : PySem.W.Frag) (F : Hp) (J : It) (ds : List D) : Prop := ∀ F' O' P' H', Same F F' → Gd M K F' O' P' H' → ∀ i : Nat,
  (∀ d, ds[i]? = some d → J.go i H' ∧ ∀ x H'', J.yld i H' x H'' → ∃ F'', Same F' F'' ∧ Gd M K F'' O' P' H'' ∧ Rep K F'' d x) ∧ (ds.length ≤ i → J.stop i H')
abbrev FI := DEnv → Ow → (List D → Ow → Prop) → Prop
def liftI (M : MX) (K : PySem.W.Frag) (f : FI) : TI := fun σ H Q => ∃ F O P ρ R, Gd M K F O P H ∧ EnvOk K F ρ σ ∧ f ρ O R ∧ ∀ ds O' F' H' J, R ds O' → Same F F' → Gd M K F' O' P H' → ItOk M K F' J ds → Q J H'
abbrev DI (M : MX) (X : Cx) (tg iter : Expr) (f : FI) : Prop := PI X tg iter (liftI M X.K f)
theorem piMono {X : Cx} {tg iter : Expr} {t t' : TI} (h : PI X tg iter t) (imp : ∀ σ H Q, t' σ H Q → t σ H Q) : PI X tg iter t' := ⟨fun pins s σ H Q I q => h.run pins s σ H Q I (imp σ H Q q)⟩
variable {tg iter l : Expr} {fl : FE} {fr : FA}
theorem SqL.inj' {K : PySem.W.Frag} {H : Hp} {a : Addr} {xs ys : List V} (h : H a = some (.lst xs)) : SqL K H a xs := SqL.of h
def asL (d : D) (O : Ow) (Q : List D → Ow → Prop) : Prop := match d with
  | .lst ds => Q ds O
  | _ => False
def asT (d : D) (O : Ow) (Q : List D → Ow → Prop) : Prop := match d with
  | .tup ds => Q ds O
  | _ => False
def asSg (d : D) (O : Ow) (Q : List D → Ow → Prop) : Prop := match d with
  | .str x => Q (x.cps.toList.map fun c => .str ⟨#[c]⟩) O
  | _ => False
def asR1 (ds : List D) (O : Ow) (Q : Int → Nat → Ow → Prop) : Prop := match ds with
  | [.int j] => -(2 ^ 62) ≤ j ∧ j < 2 ^ 62 ∧ Q 0 j.toNat O
  | _ => False
def asR2 (ds : List D) (O : Ow) (Q : Int → Nat → Ow → Prop) : Prop := match ds with
  | [.int i, .int j] => (-(2 ^ 62) ≤ i ∧ i < 2 ^ 62 ∧ -(2 ^ 62) ≤ j ∧ j < 2 ^ 62) ∧ Q i (j - i).toNat O
  | _ => False
def asL1 (ds : List D) (O : Ow) (Q : List D → Ow → Prop) : Prop := match ds with
  | [.lst ds] => Q ds O
  | _ => False
def asL2 (ds : List D) (O : Ow) (Q : List D → List D → Ow → Prop) : Prop := match ds with
  | [.lst ds, .lst es] => Q ds es O
  | _ => False
section
variable {O : Ow} {xs ys : List D} {i j : Int}
theorem asL_l {Q : List D → Ow → Prop} : asL (.lst xs) O Q = Q xs O := rfl
theorem asT_t {Q : List D → Ow → Prop} : asT (.tup xs) O Q = Q xs O := rfl
theorem asSg_s {Q : List D → Ow → Prop} {x : Str} : asSg (.str x) O Q = Q (x.cps.toList.map fun c => .str ⟨#[c]⟩) O := rfl
theorem asR1_i {Q : Int → Nat → Ow → Prop} : asR1 [.int j] O Q = (-(2 ^ 62) ≤ j ∧ j < 2 ^ 62 ∧ Q 0 j.toNat O) := rfl
theorem asR2_i {Q : Int → Nat → Ow → Prop} : asR2 [.int i, .int j] O Q = ((-(2 ^ 62) ≤ i ∧ i < 2 ^ 62 ∧ -(2 ^ 62) ≤ j ∧ j < 2 ^ 62) ∧ Q i (j - i).toNat O) := rfl
theorem asL1_l {Q : List D → Ow → Prop} : asL1 [.lst xs] O Q = Q xs O := rfl
theorem asL2_l {Q : List D → List D → Ow → Prop} : asL2 [.lst xs, .lst ys] O Q = Q xs ys O := rfl
end
/-- a list -/
def fiList (fl : FE) : FI := fun ρ O Q => fl ρ O fun d O1 => asL d O1 Q
theorem di_list (hl : DE M X l fl) : DI M X tg l (fiList fl) := piMono (pi_list hl) fun σ H Q h => by
  obtain ⟨F, O, P, ρ, R, g, en, q, po⟩ := h
  refine ⟨F, O, P, ρ, _, g, en, q, fun d O1 F1 H1 v q1 s1 g1 r1 => ?_⟩
  unfold asL at q1
  cases d <;> first | exact q1.elim | skip
  rename_i ds
  simp only [Rep] at r1
  obtain ⟨a, xs, rfl, h1, h2⟩ := r1
  refine ⟨a, rfl, ⟨xs, SqL.of (g1.fz _ _ h1)⟩, po ds O1 F1 H1 _ q1 s1 g1 fun F2 O2 P2 H2 s2 g2 i => ⟨fun d e => ?_, fun hi => ?_⟩⟩
  · have sq : SqL X.K H2 a xs := SqL.of (g2.fz _ _ (s2 _ _ h1))
    obtain ⟨w, e1, r1⟩ := h2.get e
    refine ⟨⟨xs, w, sq, e1⟩, fun x H3 hy => ?_⟩
    obtain ⟨rfl, hx⟩ := hy
    have := hx xs sq
    rw [e1] at this
    cases this
    exact ⟨F2, Same.refl _, g2, r1.mono s2⟩
  · exact ⟨xs, SqL.of (g2.fz _ _ (s2 _ _ h1)), by rw [← h2.length]; exact hi⟩
/-- a tuple -/
def fiTup (fl : FE) : FI := fun ρ O Q => fl ρ O fun d O1 => asT d O1 Q
theorem SqT.uniq {K : PySem.W.Frag} {F : Hp} {a : Addr} {xs ys : List V} (h : SqT K F a xs) (h' : SqT K F a ys) (hk : ∀ o, K.lookup a = some o → F a = none) : xs = ys := by
  rcases h with (h | ⟨o, h⟩) | ⟨o, its, n, h1, h2, h3, h4, h5⟩
  · rcases h' with (h' | ⟨o', h'⟩) | ⟨o', its', n', h1', _⟩
    · rw [h] at h'; cases h'; rfl
    · rw [h] at h'; cases h'
    · rw [hk _ h1'] at h; cases h
  · rcases h' with (h' | ⟨o', h'⟩) | ⟨o', its', n', h1', _⟩
    · rw [h] at h'; cases h'
    · rw [h] at h'; cases h'; rfl
    · rw [hk _ h1'] at h; cases h
  · rcases h' with (h' | ⟨o', h'⟩) | ⟨o', its', n', h1', h2', h3', h4', h5'⟩
    · rw [hk _ h1] at h'; cases h'
    · rw [hk _ h1] at h'; cases h'
    · rw [h1] at h1'; cases h1'
      rw [h3] at h3'; cases h3'
      exact Vals.inj h5 h5'
theorem di_tup (hl : DE M X l fl) : DI M X tg l (fiTup fl) := piMono (pi_tup hl) fun σ H Q h => by
  obtain ⟨F, O, P, ρ, R, g, en, q, po⟩ := h
  refine ⟨F, O, P, ρ, _, g, en, q, fun d O1 F1 H1 v q1 s1 g1 r1 => ?_⟩
  unfold asT at q1
  cases d <;> first | exact q1.elim | skip
  rename_i ds
  simp only [Rep] at r1
  obtain ⟨a, xs, rfl, h1, h2⟩ := r1
  refine ⟨a, rfl, ⟨xs, Same.seqT g1.fz h1⟩, po ds O1 F1 H1 _ q1 s1 g1 fun F2 O2 P2 H2 s2 g2 i => ⟨fun d e => ?_, fun hi => ?_⟩⟩
  · have sq : SqT X.K H2 a xs := Same.seqT g2.fz (Same.seqT s2 h1)
    obtain ⟨w, e1, r1⟩ := h2.get e
    refine ⟨⟨xs, w, sq, e1⟩, fun x H3 hy => ?_⟩
    obtain ⟨rfl, hx⟩ := hy
    have := hx xs sq
    rw [e1] at this
    cases this
    exact ⟨F2, Same.refl _, g2, r1.mono s2⟩
  · exact ⟨xs, Same.seqT g2.fz (Same.seqT s2 h1), by rw [← h2.length]; exact hi⟩
/-- range(n), range(a, b) -/
def rangeD (lo : Int) (n : Nat) : List D := (List.range n).map fun i => .int (lo + (i : Nat))
theorem itOk_range {K : PySem.W.Frag} {F : Hp} (lo : Int) (n : Nat) : ItOk M K F (Itr lo n) (rangeD lo n) := fun F2 O2 P2 H2 s2 g2 i => by
  refine ⟨fun d e => ?_, fun hi => ?_⟩
  · unfold rangeD at e
    rw [List.getElem?_map] at e
    obtain ⟨j, e1, e2⟩ := Option.map_eq_some_iff.mp e
    have hi : i < n := by
      have := List.getElem?_eq_some_iff.mp e1
      obtain ⟨h, _⟩ := this
      simpa using h
    have hj : j = i := by
      rw [List.getElem?_range hi] at e1
      exact (Option.some.inj e1).symm
    subst hj
    subst e2
    refine ⟨hi, fun x H3 hy => ?_⟩
    obtain ⟨rfl, rfl⟩ := hy
    exact ⟨F2, Same.refl _, g2, by simp only [Rep]⟩
  · unfold rangeD at hi
    rw [List.length_map, List.length_range] at hi
    exact hi
def fiRng1 (fr : FA) : FI := fun ρ O Q => fr ρ O fun ds O1 => asR1 ds O1 fun i n O2 => Q (rangeD i n) O2
theorem di_range1 {a : Expr} {p : Pos} (hg : Gl X "range") (hm : X.mg "range" = none) (ha : DA M X [a] fr) (hs : starEach [a] X.env = [(false, eval a X.env)] := by rfl) : DI M X tg (.Call (.Name "range" p) [a] [] pos) (fiRng1 fr) :=
  piMono (pi_range1 hg hm ha hs) fun σ H Q h => by
    obtain ⟨F, O, P, ρ, R, g, en, q, po⟩ := h
    refine ⟨F, O, P, ρ, _, g, en, q, fun ds O1 F1 H1 vs q1 s1 g1 r1 => ?_⟩
    unfold asR1 at q1
    split at q1
    · obtain ⟨v, rfl, r1'⟩ := r1.one'
      simp only [Rep] at r1'
      exact ⟨_, by rw [r1'], q1.1, q1.2.1, po _ O1 F1 H1 _ q1.2.2 s1 g1 (itOk_range 0 _)⟩
    · exact q1.elim
def fiRng2 (fr : FA) : FI := fun ρ O Q => fr ρ O fun ds O1 => asR2 ds O1 fun i n O2 => Q (rangeD i n) O2
theorem di_range2 {a b : Expr} {p : Pos} (hg : Gl X "range") (hm : X.mg "range" = none) (ha : DA M X [a, b] fr) (hs : starEach [a, b] X.env = [(false, eval a X.env), (false, eval b X.env)] := by rfl) (hs2 : starEach [b] X.env = [(false, eval b X.env)] := by rfl) : DI M X tg (.Call (.Name "range" p) [a, b] [] pos) (fiRng2 fr) :=
  piMono (pi_range2 hg hm ha hs hs2) fun σ H Q h => by
    obtain ⟨F, O, P, ρ, R, g, en, q, po⟩ := h
    refine ⟨F, O, P, ρ, _, g, en, q, fun ds O1 F1 H1 vs q1 s1 g1 r1 => ?_⟩
    unfold asR2 at q1
    split at q1
    · obtain ⟨v, w, rfl, r1', r2'⟩ := r1.two'
      simp only [Rep] at r1' r2'
      exact ⟨_, _, by rw [r1', r2'], q1.1, po _ O1 F1 H1 _ q1.2 s1 g1 (itOk_range _ _)⟩
    · exact q1.elim
/-- a text, sign by sign -/
def signsD (x : Str) : List D := x.cps.toList.map fun c => .str ⟨#[c]⟩
def fiStr (fl : FE) : FI := fun ρ O Q => fl ρ O fun d O1 => asSg d O1 Q
theorem di_str (hl : DE M X l fl) : DI M X tg l (fiStr fl) := piMono (pi_str hl) fun σ H Q h => by
  obtain ⟨F, O, P, ρ, R, g, en, q, po⟩ := h
  refine ⟨F, O, P, ρ, _, g, en, q, fun d O1 F1 H1 v q1 s1 g1 r1 => ?_⟩
  unfold asSg at q1
  cases d <;> first | exact q1.elim | skip
  rename_i x
  simp only [Rep] at r1
  refine ⟨x, r1, po _ O1 F1 H1 _ q1 s1 g1 fun F2 O2 P2 H2 s2 g2 i => ⟨fun d e => ?_, fun hi => ?_⟩⟩
  · unfold signsD at e
    rw [List.getElem?_map] at e
    obtain ⟨c, e1, rfl⟩ := Option.map_eq_some_iff.mp e
    have hi : i < x.cps.size := by
      obtain ⟨h, _⟩ := List.getElem?_eq_some_iff.mp e1
      simpa using h
    refine ⟨hi, fun y H3 hy => ?_⟩
    obtain ⟨rfl, c', e2, rfl⟩ := hy
    rw [Array.getElem?_toList] at e1
    rw [e1] at e2
    cases e2
    exact ⟨F2, Same.refl _, g2, by simp only [Rep]⟩
  · unfold signsD at hi
    rw [List.length_map, Array.length_toList] at hi
    exact hi
/-- enumerate(xs) -/
def enumD (ds : List D) : List D := ds.zipIdx.map fun p => .tup [.int (p.2 : Nat), p.1]
theorem enumD_get (ds : List D) (i : Nat) : (enumD ds)[i]? = ds[i]?.map fun d => .tup [.int (i : Nat), d] := by
  unfold enumD
  rw [List.getElem?_map, List.getElem?_zipIdx]
  cases ds[i]? with
  | none => rfl
  | some d => simp
theorem enumD_length (ds : List D) : (enumD ds).length = ds.length := by unfold enumD; rw [List.length_map, List.length_zipIdx]
def fiEnum (fr : FA) : FI := fun ρ O Q => fr ρ O fun ds O1 => asL1 ds O1 fun ds O2 => Q (enumD ds) O2
theorem di_enum {e : Expr} {p tpos : Pos} {elts : List Expr} {kk : Nat} (hg : Gl X "enumerate") (hm : X.mg "enumerate" = none) (ha : DA M X [e] fr) (hs : starEach [e] X.env = [(false, eval e X.env)] := by rfl) :
    DI M X (.Tuple elts kk tpos) (.Call (.Name "enumerate" p) [e] [] pos) (fiEnum fr) := piMono (pi_enum hg hm ha hs) fun σ H Q h => by
  obtain ⟨F, O, P, ρ, R, g, en, q, po⟩ := h
  refine ⟨F, O, P, ρ, _, g, en, q, fun ds O1 F1 H1 vs q1 s1 g1 r1 => ?_⟩
  unfold asL1 at q1
  split at q1
  · rename_i ds
    obtain ⟨v, rfl, r1'⟩ := r1.one'
    simp only [Rep] at r1'
    obtain ⟨a, xs, rfl, h1, h2⟩ := r1'
    refine ⟨a, xs, rfl, SqL.of (g1.fz _ _ h1), po _ O1 F1 H1 _ q1 s1 g1 fun F2 O2 P2 H2 s2 g2 i => ⟨fun d e => ?_, fun hi => ?_⟩⟩
    · rw [enumD_get] at e
      obtain ⟨d0, e0, rfl⟩ := Option.map_eq_some_iff.mp e
      have sq : SqL X.K H2 a xs := SqL.of (g2.fz _ _ (s2 _ _ h1))
      obtain ⟨w, e1, r1⟩ := h2.get e0
      refine ⟨⟨xs, w, sq, e1⟩, fun x H3 hy => ?_⟩
      obtain ⟨T, y, rfl, hT, rfl, hx⟩ := hy
      have hxx := hx xs sq
      rw [e1] at hxx
      cases hxx
      have hF := g2.freeF hT
      refine ⟨upd F2 T (.tup [.int (i : Nat), w]), same_upd hF, g2.new hT, ?_⟩
      simp only [Rep]
      refine ⟨T, _, rfl, .inl (.inl upd_same), .cons (by simp only [Rep]) (.one ((r1.mono s2).mono (same_upd hF)))⟩
    · rw [enumD_length] at hi
      exact ⟨xs, SqL.of (g2.fz _ _ (s2 _ _ h1)), by rw [← h2.length]; exact hi⟩
  · exact q1.elim
/-- zip(xs, ys) -/
def zipD (ds es : List D) : List D := (ds.zip es).map fun p => .tup [p.1, p.2]
def fiZip (fr : FA) : FI := fun ρ O Q => fr ρ O fun ds O1 => asL2 ds O1 fun ds es O2 => Q (zipD ds es) O2
theorem di_zip {e e2 : Expr} {p tpos : Pos} {elts : List Expr} {kk : Nat} (hg : Gl X "zip") (hm : X.mg "zip" = none) (ha : DA M X [e, e2] fr)
    (hs : starEach [e, e2] X.env = (false, eval e X.env) :: starEach [e2] X.env := by rfl) (hpl : (backTo pos (starEach [e2] X.env)).any (·.1) = false := by rfl) :
    DI M X (.Tuple elts kk tpos) (.Call (.Name "zip" p) [e, e2] [] pos) (fiZip fr) := piMono (pi_zip hg hm ha hs hpl) fun σ H Q h => by
  obtain ⟨F, O, P, ρ, R, g, en, q, po⟩ := h
  refine ⟨F, O, P, ρ, _, g, en, q, fun ds O1 F1 H1 vs q1 s1 g1 r1 => ?_⟩
  unfold asL2 at q1
  split at q1
  · rename_i ds es
    obtain ⟨v, w, rfl, r1', r2'⟩ := r1.two'
    simp only [Rep] at r1' r2'
    obtain ⟨a, xs, rfl, h1, h2⟩ := r1'
    obtain ⟨b, ys, rfl, k1, k2⟩ := r2'
    refine ⟨a, b, xs, ys, rfl, SqL.of (g1.fz _ _ h1), SqL.of (g1.fz _ _ k1), po _ O1 F1 H1 _ q1 s1 g1 fun F2 O2 P2 H2 s2 g2 i => ⟨fun d e => ?_, fun hi => ?_⟩⟩
    · unfold zipD at e
      rw [List.getElem?_map] at e
      obtain ⟨pq, e0, rfl⟩ := Option.map_eq_some_iff.mp e
      obtain ⟨e0a, e0b⟩ := List.getElem?_zip_eq_some.mp e0
      have sq : SqL X.K H2 a xs := SqL.of (g2.fz _ _ (s2 _ _ h1))
      have sq2 : SqL X.K H2 b ys := SqL.of (g2.fz _ _ (s2 _ _ k1))
      obtain ⟨w, e1, r1⟩ := h2.get e0a
      obtain ⟨w2, e2, r2⟩ := k2.get e0b
      refine ⟨⟨xs, ys, w, w2, sq, sq2, e1, e2⟩, fun x H3 hy => ?_⟩
      obtain ⟨T, y, y2, rfl, hT, rfl, hx, hx2⟩ := hy
      have hxx := hx xs sq
      rw [e1] at hxx
      cases hxx
      have hxx2 := hx2 ys sq2
      rw [e2] at hxx2
      cases hxx2
      have hF := g2.freeF hT
      refine ⟨upd F2 T (.tup [w, w2]), same_upd hF, g2.new hT, ?_⟩
      simp only [Rep]
      refine ⟨T, _, rfl, .inl (.inl upd_same), .cons ((r1.mono s2).mono (same_upd hF)) (.one ((r2.mono s2).mono (same_upd hF)))⟩
    · unfold zipD at hi
      rw [List.length_map, List.length_zip] at hi
      refine ⟨xs, ys, SqL.of (g2.fz _ _ (s2 _ _ h1)), SqL.of (g2.fz _ _ (s2 _ _ k1)), ?_⟩
      rw [← h2.length, ← k2.length]
      omega
  · exact q1.elim
/-- reversed(xs) -/
def fiRev (fr : FA) : FI := fun ρ O Q => fr ρ O fun ds O1 => asL1 ds O1 fun ds O2 => Q ds.reverse O2
theorem di_rev {e : Expr} {p : Pos} (hg : Gl X "reversed") (hm : X.mg "reversed" = none) (ha : DA M X [e] fr) (hs : starEach [e] X.env = [(false, eval e X.env)] := by rfl) : DI M X tg (.Call (.Name "reversed" p) [e] [] pos) (fiRev fr) := piMono (pi_reversed hg hm ha hs) fun σ H Q h => by
  obtain ⟨F, O, P, ρ, R, g, en, q, po⟩ := h
  refine ⟨F, O, P, ρ, _, g, en, q, fun ds O1 F1 H1 vs q1 s1 g1 r1 => ?_⟩
  unfold asL1 at q1
  split at q1
  · rename_i ds
    obtain ⟨v, rfl, r1'⟩ := r1.one'
    simp only [Rep] at r1'
    obtain ⟨a, xs, rfl, h1, h2⟩ := r1'
    refine ⟨a, xs, rfl, SqL.of (g1.fz _ _ h1), po _ O1 F1 H1 _ q1 s1 g1 fun F2 O2 P2 H2 s2 g2 i => ⟨fun d e => ?_, fun hi => ?_⟩⟩
    · have hl : i < ds.length := by
        obtain ⟨h, _⟩ := List.getElem?_eq_some_iff.mp e
        simpa using h
      rw [List.getElem?_reverse hl] at e
      have sq : SqL X.K H2 a xs := SqL.of (g2.fz _ _ (s2 _ _ h1))
      obtain ⟨w, e1, r1⟩ := h2.get e
      rw [h2.length] at e1
      refine ⟨⟨by rw [← h2.length]; exact hl, xs, w, sq, e1⟩, fun x H3 hy => ?_⟩
      obtain ⟨rfl, hx⟩ := hy
      have hxx := hx xs sq
      rw [e1] at hxx
      cases hxx
      exact ⟨F2, Same.refl _, g2, r1.mono s2⟩
    · rw [List.length_reverse, h2.length] at hi
      exact hi
  · exact q1.elim
/-! ### for -/
def forD (p : Pat) (gb : GS) (R : DEnds) : List D → DEnv → Ow → Prop
  | [], ρ, O => R.nx ρ O
  | d :: ds, ρ, O => patGet (patD p d ρ) fun ρ1 => gb { R with nx := forD p gb R ds, ct := forD p gb R ds, bk := R.nx } ρ1 O
def gFor (fi : FI) (p : Pat) (gb : GS) : GS := fun R ρ O => fi ρ O fun ds O1 => forD p gb R ds ρ O1
theorem ds_for {body : List Stmt} {fi : FI} {p : Pat} {gb : GS} (hp : PassesOwn (model X.prog X.w) X.A X.env X.xe) (hc : X.calm = true) (hi : DI M X tg iter fi) (hg : DP X tg p) (hb : DSs M X body gb)
    (hs : ∀ x, foldedSetIterable iter X.env x = pure x := by intro _; rfl) : DS M X (.For tg iter body [] pos) (gFor fi p gb) := psMono (ps_for hp hc hi hg hb hs) fun D σ H h => by
  obtain ⟨F, O, P, ρ, R, g, en, q, po⟩ := h
  refine ⟨F, O, P, ρ, _, g, en, q, fun ds O1 F1 H1 J q1 s1 g1 it => ?_⟩
  refine ⟨fun i m σ H => ∃ F2 O2 ρ2, i + m = ds.length ∧ Same F1 F2 ∧ Gd M X.K F2 O2 P H ∧ EnvOk X.K F2 ρ2 σ ∧ forD p gb R (ds.drop i) ρ2 O2,
    ⟨ds.length, F1, O1, ρ, by omega, Same.refl _, g1, en.mono s1, by rw [List.drop_zero]; exact q1⟩, fun i m σ2 H2 hW => ?_⟩
  obtain ⟨F2, O2, ρ2, hm, s2, g2, en2, q2⟩ := hW
  obtain ⟨it1, it2⟩ := it F2 O2 P H2 s2 g2 i
  by_cases hi : i < ds.length
  · obtain ⟨hgo, hy⟩ := it1 ds[i] (List.getElem?_eq_getElem hi)
    rw [List.drop_eq_getElem_cons hi] at q2
    unfold forD at q2
    refine .inr ⟨hgo, fun σ' H' => ∃ F3 O3 ρ3, Same F1 F3 ∧ Gd M X.K F3 O3 P H' ∧ EnvOk X.K F3 ρ3 σ' ∧ forD p gb R (ds.drop (i + 1)) ρ3 O3, fun σ' H' hN => ?_, fun x H' hyy => ?_⟩
    · obtain ⟨F3, O3, ρ3, s3, g3, en3, q3⟩ := hN
      exact ⟨m - 1, by omega, F3, O3, ρ3, by omega, s3, g3, en3, q3⟩
    · obtain ⟨F3, s3, g3, r3⟩ := hy x H' hyy
      cases e1 : patD p ds[i] ρ2 with
      | none => rw [e1] at q2; exact q2.elim
      | some ρ3 =>
        rw [e1] at q2
        refine pat_ok g3 p ds[i] x ρ2 ρ3 σ2 _ e1 r3 (en2.mono s3) fun σ4 en4 _ => ?_
        refine ⟨F3, O2, P, ρ3, _, g3, en4, q2, ⟨fun ρ5 O5 F5 H5 σ5 q5 s5 g5 en5 => ?_, ?_, ?_, fun ρ5 O5 F5 H5 σ5 q5 s5 g5 en5 => ?_⟩⟩
        · exact ⟨F5, O5, ρ5, s2.trans (s3.trans s5), g5, en5, q5⟩
        · exact po.rt.more (s1.trans (s2.trans s3))
        · exact po.nx.more (s1.trans (s2.trans s3))
        · exact ⟨F5, O5, ρ5, s2.trans (s3.trans s5), g5, en5, q5⟩
  · refine .inl ⟨it2 (by omega), ?_⟩
    rw [List.drop_eq_nil_of_le (by omega)] at q2
    exact po.nx ρ2 O2 F2 H2 σ2 q2 (s1.trans s2) g2 en2
/-! ### while -/
def gWhile (ft : FT) (gb : GS) : GS := fun R ρ O => ∃ I : Nat → DEnv → Ow → Prop, (∃ m, I m ρ O) ∧ ∀ m ρ O, I m ρ O →
  ft ρ O fun b O1 => if b = true then gb { R with nx := fun ρ' O' => ∃ m', m' < m ∧ I m' ρ' O', ct := fun ρ' O' => ∃ m', m' < m ∧ I m' ρ' O', bk := R.nx } ρ O1 else R.nx ρ O1
theorem ds_while {body : List Stmt} {gb : GS} (hp : PassesOwn (model X.prog X.w) X.A X.env X.xe) (hc : DT M X c ft) (hb : DSs M X body gb) : DS M X (.While c body [] pos) (gWhile ft gb) := psMono (ps_while hp hc hb) fun D σ H h => by
  obtain ⟨F, O, P, ρ, R, g, en, ⟨I, ⟨m0, h0⟩, hI⟩, po⟩ := h
  refine ⟨fun m σ H => ∃ F2 O2 ρ2, Same F F2 ∧ Gd M X.K F2 O2 P H ∧ EnvOk X.K F2 ρ2 σ ∧ I m ρ2 O2, ⟨m0, F, O, ρ, Same.refl _, g, en, h0⟩, fun m σ2 H2 hW => ?_⟩
  obtain ⟨F2, O2, ρ2, s2, g2, en2, q2⟩ := hW
  refine ⟨F2, O2, P, ρ2, _, g2, en2, hI m ρ2 O2 q2, fun k O3 F3 H3 q3 s3 g3 => ?_⟩
  cases k with
  | false => rw [if_neg Bool.false_ne_true] at q3 ⊢; exact po.nx ρ2 O3 F3 H3 σ2 q3 (s2.trans s3) g3 (en2.mono s3)
  | true =>
    rw [if_pos rfl] at q3 ⊢
    refine ⟨fun σ' H' => ∃ F4 O4 ρ4, Same F F4 ∧ Gd M X.K F4 O4 P H' ∧ EnvOk X.K F4 ρ4 σ' ∧ ∃ m', m' < m ∧ I m' ρ4 O4, fun σ' H' hN => ?_, ?_⟩
    · obtain ⟨F4, O4, ρ4, s4, g4, en4, m', hm, q4⟩ := hN
      exact ⟨m', hm, F4, O4, ρ4, s4, g4, en4, q4⟩
    · refine ⟨F3, O3, P, ρ2, _, g3, en2.mono s3, q3, ⟨fun ρ5 O5 F5 H5 σ5 q5 s5 g5 en5 => ?_, ?_, ?_, fun ρ5 O5 F5 H5 σ5 q5 s5 g5 en5 => ?_⟩⟩
      · exact ⟨F5, O5, ρ5, s2.trans (s3.trans s5), g5, en5, q5⟩
      · exact po.rt.more (s2.trans s3)
      · exact po.nx.more (s2.trans s3)
      · exact ⟨F5, O5, ρ5, s2.trans (s3.trans s5), g5, en5, q5⟩
end
end Kf
namespace Kf
open PySem PySem.Spec L2
open PyProof.Rows hiding St
variable {M : MX}

/-! ### a thing that stands aside -/
section
variable {K : PySem.W.Frag} {F P H : Hp} {O : Ow} {p : Addr} {o o' : HO}
theorem Gd.aside (g : Gd M K F O P H) (h : H p = none) : Gd M K F O (upd P p o) (upd H p o) := by
  have hF := g.freeF h
  have hO := g.freeO h
  have g' := g.skip (o := o) h
  refine ⟨g'.fz, fun a c e => ?_, fun a u e => ?_, M.mono g.rl (Same.refl _) (same_upd (g.freeP h))⟩
  · have ne : a ≠ p := fun q => by rw [q, hO] at e; cases e
    obtain ⟨h1, h2, h3⟩ := g'.ow a c e
    exact ⟨h1, (upd_ne ne).trans h2, h3⟩
  · by_cases q : a = p
    · subst q; rw [upd_same] at e; cases e; exact ⟨hF, upd_same⟩
    · rw [upd_ne q] at e; exact g'.as a u e
theorem Gd.asideSet (g : Gd M K F O (upd P p o) H) (mk : M.rel F (upd P p o')) : Gd M K F O (upd P p o') (upd H p o') := by
  obtain ⟨hF, hH⟩ := g.as p o upd_same
  refine ⟨fun b x e => ?_, fun a c e => ?_, fun a u e => ?_, mk⟩
  · have ne : b ≠ p := fun q => by rw [q, hF] at e; cases e
    rw [upd_ne ne]; exact g.fz b x e
  · obtain ⟨h1, h2, h3⟩ := g.ow a c e
    have ne : a ≠ p := fun q => by rw [q, upd_same] at h2; cases h2
    rw [upd_ne ne] at h2
    exact ⟨h1, (upd_ne ne).trans h2, h3.mono (Same.refl _) (upd_ne ne)⟩
  · by_cases q : a = p
    · subst q; rw [upd_same] at e; cases e; exact ⟨hF, upd_same⟩
    · rw [upd_ne q] at e
      obtain ⟨h1, h2⟩ := g.as a u ((upd_ne q).trans e)
      exact ⟨h1, (upd_ne q).trans h2⟩
theorem Gd.asideFz (g : Gd M K F O (upd P p o) H) (hP : P p = none) (mk : M.rel F P) : Same F (upd F p o) ∧ Gd M K (upd F p o) O P H := by
  obtain ⟨hF, hH⟩ := g.as p o upd_same
  have s : Same F (upd F p o) := same_upd hF
  refine ⟨s, fun b x e => ?_, fun a c e => ?_, fun a u e => ?_, M.mono mk s (Same.refl _)⟩
  · by_cases q : b = p
    · subst q; rw [upd_same] at e; cases e; exact hH
    · rw [upd_ne q] at e; exact g.fz b x e
  · obtain ⟨h1, h2, h3⟩ := g.ow a c e
    have ne : a ≠ p := fun q => by rw [q, upd_same] at h2; cases h2
    rw [upd_ne ne] at h2
    exact ⟨(upd_ne ne).trans h1, h2, h3.mono s rfl⟩
  · have ne : a ≠ p := fun q => by rw [q, hP] at e; cases e
    obtain ⟨h1, h2⟩ := g.as a u ((upd_ne ne).trans e)
    exact ⟨(upd_ne ne).trans h1, h2⟩
theorem Gd.asideOw (g : Gd M K F O (upd P p o) H) (hP : P p = none) (mk : M.rel F P) {c : Cell} (hc : CellOk K F H p c) : O p = none ∧ Gd M K F (updO O p c) P H := by
  obtain ⟨hF, hH⟩ := g.as p o upd_same
  have hO : O p = none := by
    cases e : O p with
    | none => rfl
    | some c =>
      have q := (g.ow p c e).2.1
      rw [upd_same] at q; cases q
  refine ⟨hO, g.fz, fun a d e => ?_, fun a u e => ?_, mk⟩
  · by_cases q : a = p
    · subst q; rw [updO_same] at e; cases e; exact ⟨hF, hP, hc⟩
    · rw [updO_ne q] at e
      obtain ⟨h1, h2, h3⟩ := g.ow a d e
      rw [upd_ne q] at h2
      exact ⟨h1, h2, h3⟩
  · have ne : a ≠ p := fun q => by rw [q, hP] at e; cases e
    exact g.as a u ((upd_ne ne).trans e)
end

/-! ### list comprehensions -/
def wipeD (ρ : DEnv) : List Nat → DEnv
  | [] => ρ
  | v :: vs => (wipeD ρ vs).set v none
theorem EnvOk.wipes {K : PySem.W.Frag} {F : Hp} {ρ : DEnv} {σ : L2.St} (h : EnvOk K F ρ σ) : ∀ vs : List Nat, EnvOk K F (wipeD ρ vs) (L2.wipe σ vs)
  | [] => h
  | v :: vs => by unfold wipeD L2.wipe; exact (EnvOk.wipes h vs).wipe v
theorem wipe_in {σ : L2.St} {i : Nat} : ∀ {vs : List Nat}, i ∈ vs → (wipe σ vs)[i]? = if i < σ.length then some none else none
  | [], h => by cases h
  | v :: vs, h => by
    unfold L2.wipe
    by_cases e : v = i
    · subst e
      by_cases c : v < σ.length
      · rw [if_pos c, List.getElem?_set_self (by rw [wipe_length]; exact c)]
      · rw [if_neg c, List.getElem?_eq_none (by rw [List.length_set, wipe_length]; omega)]
    · rw [List.getElem?_set_ne e]
      exact wipe_in ((List.mem_cons.mp h).resolve_left fun q => e q.symm)
theorem wipe_off {σ τ : L2.St} {vs ws : List Nat} (h : Off ws (wipe σ vs) τ) (hs : ∀ i ∈ ws, i ∈ vs) : wipe τ vs = wipe σ vs := by
  refine List.ext_getElem? fun i => ?_
  have hl : τ.length = σ.length := by rw [← h.1, wipe_length]
  by_cases c : i ∈ vs
  · rw [wipe_in c, wipe_in c, hl]
  · rw [wipe_out c]
    exact h.2 i fun q => c (hs i q)
def lcD (p : Pat) (ft : FT) (fe : FE) (ρ : DEnv) : List D → List D → Ow → (List D → Ow → Prop) → Prop
  | [], acc, O, Q => Q acc O
  | d :: ds, acc, O, Q => patGet (patD p d ρ) fun ρ1 => ft ρ1 O fun b O1 => if b = true then fe ρ1 O1 fun e O2 => acc.length < sizeLine ∧ lcD p ft fe ρ ds (acc ++ [e]) O2 Q else lcD p ft fe ρ ds acc O1 Q
def fLc (fi : FI) (p : Pat) (ft : FT) (fe : FE) (vs : List Nat) : FE := fun ρ O Q => fi ρ O fun ds O1 => lcD p ft fe (wipeD ρ vs) ds [] O1 fun acc O2 => Q (.lst acc) O2
def fLcO (fi : FI) (p : Pat) (ft : FT) (fe : FE) (vs : List Nat) : FE := fun ρ O Q => fi ρ O fun ds O1 => lcD p ft fe (wipeD ρ vs) ds [] O1 fun acc O2 => ∀ q, O2 q = none → Q (.ref q) (updO O2 q (.lst acc))
def fYes : FT := fun _ O Q => Q true O
section
variable {X : Cx} {elt tg iter : Expr} {ifs : List Expr} {scope : Scope} {own : List (Str × Nat)} {pos : Pos} {fi : FI} {p : Pat} {ft : FT} {fe : FE}
theorem dts_nil : PTs X [] (liftT M X.K fYes) := ⟨fun pins s σ H Q I h => by
  obtain ⟨F, O, P, ρ, R, g, en, q, po⟩ := h
  exact pts_nil.run pins s σ H Q I (po true O F H q (Same.refl _) g)⟩
theorem dts_one {c : Expr} (h : DT M X c ft) : PTs X [c] (liftT M X.K ft) := pts_one h
theorem fLc_core {vs : List Nat} {K : PySem.W.Frag} (hv : ∀ i ∈ patI p, i ∈ vs) {σ : L2.St} {H : Hp} {Q : VK} {F P : Hp} {O : Ow} {ρ : DEnv} {R : List D → Ow → Prop} (g : Gd M K F O P H) (en : EnvOk K F ρ σ)
    (q : fi ρ O fun ds O1 => lcD p ft fe (wipeD ρ vs) ds [] O1 R)
    (po : ∀ acc O' F' H' q vacc, R acc O' → Same F F' → P q = none → M.rel F' P → Gd M K F' O' (upd P q (.lst vacc)) H' → RepAll K F' acc vacc → Q (.ref q) H') :
    tLc (liftI M K fi) (patT K p) (liftT M K ft) (liftE M K fe) vs σ H Q := by
  refine ⟨F, O, P, ρ, _, g, en, q, fun ds O1 F1 H1 J q1 s1 g1 it D hD => ?_⟩
  have hP := g1.freeP hD
  refine ⟨fun i m H => ∃ F2 O2 acc vacc, i + m = ds.length ∧ Same F1 F2 ∧ Gd M K F2 O2 (upd P D (.lst vacc)) H ∧ RepAll K F2 acc vacc ∧ lcD p ft fe (wipeD ρ vs) (ds.drop i) acc O2 R,
    ⟨ds.length, F1, O1, [], [], by omega, Same.refl _, g1.aside hD, .nil, by rw [List.drop_zero]; exact q1⟩, fun i m H2 hW => ?_⟩
  obtain ⟨F2, O2, acc, vacc, hm, s2, g2, ra, q2⟩ := hW
  obtain ⟨it1, it2⟩ := it F2 O2 (upd P D (.lst vacc)) H2 s2 g2 i
  by_cases hi : i < ds.length
  · obtain ⟨hgo, hy⟩ := it1 ds[i] (List.getElem?_eq_getElem hi)
    rw [List.drop_eq_getElem_cons hi] at q2
    unfold lcD at q2
    refine .inr ⟨hgo, fun H' => ∃ F3 O3 acc vacc, Same F1 F3 ∧ Gd M K F3 O3 (upd P D (.lst vacc)) H' ∧ RepAll K F3 acc vacc ∧ lcD p ft fe (wipeD ρ vs) (ds.drop (i + 1)) acc O3 R, fun H' hN => ?_, fun x H' hyy => ?_⟩
    · obtain ⟨F3, O3, acc3, vacc3, s3, g3, r3, q3⟩ := hN
      exact ⟨m - 1, by omega, F3, O3, acc3, vacc3, by omega, s3, g3, r3, q3⟩
    · obtain ⟨F3, s3, g3, r3⟩ := hy x H' hyy
      cases e1 : patD p ds[i] (wipeD ρ vs) with
      | none => rw [e1] at q2; exact q2.elim
      | some ρ3 =>
        rw [e1] at q2
        refine pat_ok g3 p ds[i] x (wipeD ρ vs) ρ3 (wipe σ vs) _ e1 r3 ((en.mono (s1.trans (s2.trans s3))).wipes vs) fun σ4 en4 off => ?_
        refine ⟨wipe_off off hv, F3, O2, upd P D (.lst vacc), ρ3, _, g3, en4, q2, fun b O5 F5 H5 q5 s5 g5 => ?_⟩
        cases b with
        | true =>
          rw [if_pos rfl] at q5 ⊢
          refine ⟨F5, O5, upd P D (.lst vacc), ρ3, _, g5, en4.mono s5, q5, fun y O6 F6 H6 w q6 s6 g6 r6 => ?_⟩
          refine ⟨vacc, (g6.as D _ upd_same).2, by rw [← ra.length]; exact q6.1, F6, O6, acc ++ [y], vacc ++ [w], s2.trans (s3.trans (s5.trans s6)), g6.asideSet (M.mono g1.rl (s2.trans (s3.trans (s5.trans s6))) (same_upd hP)), (ra.mono (s3.trans (s5.trans s6))).append (.one r6), q6.2⟩
        | false =>
          rw [if_neg Bool.false_ne_true] at q5 ⊢
          exact ⟨F5, O5, acc, vacc, s2.trans (s3.trans s5), g5, ra.mono (s3.trans s5), q5⟩
  · rw [List.drop_eq_nil_of_le (by omega)] at q2
    exact .inl ⟨it2 (by omega), po acc O2 F2 H2 D vacc q2 (s1.trans s2) hP (M.mono g1.rl s2 (Same.refl _)) g2 ra⟩
theorem fLc_lift {vs : List Nat} {K : PySem.W.Frag} (hv : ∀ i ∈ patI p, i ∈ vs) : ∀ σ H Q, liftE M K (fLc fi p ft fe vs) σ H Q → tLc (liftI M K fi) (patT K p) (liftT M K ft) (liftE M K fe) vs σ H Q := fun σ H Q h => by
  obtain ⟨F, O, P, ρ, R, g, en, q, po⟩ := h
  refine fLc_core hv g en q fun acc O' F' H' a vacc q1 s1 hP mk g1 r1 => ?_
  obtain ⟨s2, g2⟩ := g1.asideFz hP mk
  refine po (.lst acc) O' _ H' _ q1 (s1.trans s2) g2 ?_
  simp only [Rep]
  exact ⟨a, vacc, rfl, upd_same, r1.mono s2⟩
theorem fLcO_lift {vs : List Nat} {K : PySem.W.Frag} (hv : ∀ i ∈ patI p, i ∈ vs) : ∀ σ H Q, liftE M K (fLcO fi p ft fe vs) σ H Q → tLc (liftI M K fi) (patT K p) (liftT M K ft) (liftE M K fe) vs σ H Q := fun σ H Q h => by
  obtain ⟨F, O, P, ρ, R, g, en, q, po⟩ := h
  refine fLc_core hv g en q fun acc O' F' H' a vacc q1 s1 hP mk g1 r1 => ?_
  obtain ⟨hO, g2⟩ := g1.asideOw hP mk (c := .lst acc) ⟨vacc, (g1.as a _ upd_same).2, r1⟩
  exact po (.ref a) _ F' H' _ (q1 a hO) s1 g2 (by simp only [Rep])
theorem pat_in {vs : List Nat} (h : ((patI p).all fun i => vs.contains i) = true) : ∀ i ∈ patI p, i ∈ vs := fun i hi => by
  have := List.all_eq_true.mp h i hi
  simpa using this
theorem de_lc {vs : List Nat} (hc : X.calm = true) (hN : X.N.Nodup) (hi : DI M X tg iter fi) (ok : BlkOk X.N X.env.scope scope own)
    (hg : ∀ (s : Shared) (H : Hp) (C : Addr) (cl : List (Str × Addr)) (fp : List Addr), DP (X.blk s H scope (compEnvC scope cl C X.env) fp) tg p) (ht : ∀ (s : Shared) (H : Hp) (C : Addr) (cl : List (Str × Addr)) (fp : List Addr), PTs (X.blk s H scope (compEnvC scope cl C X.env) fp) ifs (liftT M X.K ft))
    (he : ∀ (s : Shared) (H : Hp) (C : Addr) (cl : List (Str × Addr)) (fp : List Addr), DE M (X.blk s H scope (compEnvC scope cl C X.env) fp) elt fe) (hvs : own.map (·.2) = vs := by rfl) (hv : ((patI p).all fun i => vs.contains i) = true := by decide) (hs : ∀ x, foldedSetIterable iter X.env x = pure x := by intro _; rfl) :
    DE M X (.ListComp elt [⟨tg, iter, ifs, 0⟩] scope pos) (fLc fi p ft fe vs) := by
  subst hvs
  exact peMono (pe_lc (te := liftE M X.K fe) (g := patT X.K p) hc hN hi ok hg ht he hs) (fLc_lift (pat_in hv))
theorem de_lcO {vs : List Nat} (hc : X.calm = true) (hN : X.N.Nodup) (hi : DI M X tg iter fi) (ok : BlkOk X.N X.env.scope scope own)
    (hg : ∀ (s : Shared) (H : Hp) (C : Addr) (cl : List (Str × Addr)) (fp : List Addr), DP (X.blk s H scope (compEnvC scope cl C X.env) fp) tg p) (ht : ∀ (s : Shared) (H : Hp) (C : Addr) (cl : List (Str × Addr)) (fp : List Addr), PTs (X.blk s H scope (compEnvC scope cl C X.env) fp) ifs (liftT M X.K ft))
    (he : ∀ (s : Shared) (H : Hp) (C : Addr) (cl : List (Str × Addr)) (fp : List Addr), DE M (X.blk s H scope (compEnvC scope cl C X.env) fp) elt fe) (hvs : own.map (·.2) = vs := by rfl) (hv : ((patI p).all fun i => vs.contains i) = true := by decide) (hs : ∀ x, foldedSetIterable iter X.env x = pure x := by intro _; rfl) :
    DE M X (.ListComp elt [⟨tg, iter, ifs, 0⟩] scope pos) (fLcO fi p ft fe vs) := by
  subst hvs
  exact peMono (pe_lc (te := liftE M X.K fe) (g := patT X.K p) hc hN hi ok hg ht he hs) (fLcO_lift (pat_in hv))
/-- name = [..] on one line, the name a local -/
theorem ds_setLc {i : Nat} {vs : List Nat} {y : Str} {py spos : Pos} (hc : X.calm = true) (hN : X.N.Nodup) (hy : X.N[i]? = some y) (hyl : X.env.scope.names.lookup y = some .local)
    (hsw : swapsWith (.ListComp elt [⟨tg, iter, ifs, 0⟩] scope pos) (some (.Name y py)) spos.line X.env = pure true) (hi : DI M X tg iter fi) (ok : BlkOk X.N X.env.scope scope own)
    (hg : ∀ (s : Shared) (H : Hp) (C : Addr) (cl : List (Str × Addr)) (fp : List Addr), DP (X.blk s H scope (compEnvC scope cl C X.env) fp) tg p) (ht : ∀ (s : Shared) (H : Hp) (C : Addr) (cl : List (Str × Addr)) (fp : List Addr), PTs (X.blk s H scope (compEnvC scope cl C X.env) fp) ifs (liftT M X.K ft))
    (he : ∀ (s : Shared) (H : Hp) (C : Addr) (cl : List (Str × Addr)) (fp : List Addr), DE M (X.blk s H scope (compEnvC scope cl C X.env) fp) elt fe) (hvs : own.map (·.2) = vs := by rfl) (hv : ((patI p).all fun i => vs.contains i) = true := by decide) (hs : ∀ x, foldedSetIterable iter X.env x = pure x := by intro _; rfl) :
    DS M X (.Assign [.Name y py] (.ListComp elt [⟨tg, iter, ifs, 0⟩] scope pos) spos) (gSet (fLc fi p ft fe vs) i) := by
  subst hvs
  exact psMono (ps_setLc (te := liftE M X.K fe) (g := patT X.K p) hc hN hy hyl hsw hi ok hg ht he hs) (gSet_lift (fLc_lift (pat_in hv)))
theorem ds_setLcO {i : Nat} {vs : List Nat} {y : Str} {py spos : Pos} (hc : X.calm = true) (hN : X.N.Nodup) (hy : X.N[i]? = some y) (hyl : X.env.scope.names.lookup y = some .local)
    (hsw : swapsWith (.ListComp elt [⟨tg, iter, ifs, 0⟩] scope pos) (some (.Name y py)) spos.line X.env = pure true) (hi : DI M X tg iter fi) (ok : BlkOk X.N X.env.scope scope own)
    (hg : ∀ (s : Shared) (H : Hp) (C : Addr) (cl : List (Str × Addr)) (fp : List Addr), DP (X.blk s H scope (compEnvC scope cl C X.env) fp) tg p) (ht : ∀ (s : Shared) (H : Hp) (C : Addr) (cl : List (Str × Addr)) (fp : List Addr), PTs (X.blk s H scope (compEnvC scope cl C X.env) fp) ifs (liftT M X.K ft))
    (he : ∀ (s : Shared) (H : Hp) (C : Addr) (cl : List (Str × Addr)) (fp : List Addr), DE M (X.blk s H scope (compEnvC scope cl C X.env) fp) elt fe) (hvs : own.map (·.2) = vs := by rfl) (hv : ((patI p).all fun i => vs.contains i) = true := by decide) (hs : ∀ x, foldedSetIterable iter X.env x = pure x := by intro _; rfl) :
    DS M X (.Assign [.Name y py] (.ListComp elt [⟨tg, iter, ifs, 0⟩] scope pos) spos) (gSet (fLcO fi p ft fe vs) i) := by
  subst hvs
  exact psMono (ps_setLc (te := liftE M X.K fe) (g := patT X.K p) hc hN hy hyl hsw hi ok hg ht he hs) (gSet_lift (fLcO_lift (pat_in hv)))
end

/-! ### what a def promises, over data -/
theorem Gd.re {M' : MX} {K : PySem.W.Frag} {F P H : Hp} {O : Ow} (g : Gd M K F O P H) (mk : M'.rel F P) : Gd M' K F O P H := ⟨g.fz, g.ow, g.as, mk⟩
theorem Gd.mt {K : PySem.W.Frag} {F P H : Hp} {O : Ow} (g : Gd M K F O P H) : Gd MT K F O P H := g.re trivial
theorem Gd.less {K : PySem.W.Frag} {F P P0 H : Hp} {O : Ow} (g : Gd MT K F O P H) (s : Same P0 P) : Gd MT K F O P0 H := by
  refine ⟨g.fz, fun a c e => ?_, fun a o e => g.as a o (s a o e), trivial⟩
  obtain ⟨h1, h2, h3⟩ := g.ow a c e
  exact ⟨h1, s.free h2, h3⟩
theorem PostE.mt {K : PySem.W.Frag} {F F1 P H : Hp} {O : Ow} {R : VD} {Q : VK} (po : PostE M K F P R Q) (g : Gd M K F1 O P H) (s1 : Same F F1) : PostE MT K F1 P R Q := fun d O' F' H' v q s g' r => po d O' F' H' v q (s1.trans s) (g'.re (M.mono g.rl s (Same.refl _))) r
abbrev XD := Value → Option (List (Str × D)) → Ow → Prop
abbrev DSp := List D → Ow → VD → XD → Prop
def XdOk (K : PySem.W.Frag) (F _H : Hp) : Option (List (Str × D)) → Option Addr → Prop := XdR K F
def PostX (K : PySem.W.Frag) (F P : Hp) (RE : XD) (E : XK) : Prop := ∀ cls fs O' F' H' dd, RE cls fs O' → Same F F' → Gd MT K F' O' P H' → XdOk K F' H' fs dd → E cls dd H'
theorem PostX.more {K : PySem.W.Frag} {F F' P : Hp} {RE : XD} {E : XK} (po : PostX K F P RE E) (s : Same F F') : PostX K F' P RE E := fun cls fs O' F2 H' dd q s2 g x => po cls fs O' F2 H' dd q (s.trans s2) g x
def liftSp (K : PySem.W.Frag) (dsp : DSp) : Sp := fun vs H Q E => ∃ F O P ds R RE, Gd MT K F O P H ∧ RepAll K F ds vs ∧ dsp ds O R RE ∧ PostE MT K F P R Q ∧ PostX K F P RE E
abbrev X0 : XD := fun _ _ _ => False
section
variable {X : Cx} {e : Expr} {es : List Expr} {fr : FA} {CX : CXT} {k : Nat} {f : Addr} {fd : FuncData} {ps : List Str} {dsp : DSp} {x : Str} {p pos : Pos}
def fCall (dsp : DSp) (fr : FA) : FE := fun ρ O Q => fr ρ O fun ds O1 => dsp ds O1 Q X0
theorem de_call (G : FnOk X.prog X.w X.K X.mg X.base CX0 k f fd ps (liftSp X.K dsp)) (hr : Room k X.A) (hg : Gl X x) (hm : X.mg x = some (.ref f)) (hk : PySem.W.keepIn X.K (.ref f) = true) (hb : Binds X.K fd ps [])
    (ha : DA M X (e :: es) fr) (hdb : (x == ("__debug__" : Str)) = false := by decide) (he : starEach (e :: es) X.env = (false, eval e X.env) :: starEach es X.env := by rfl) (hpl : (backTo pos (starEach es X.env)).any (·.1) = false := by rfl) :
    DE M X (.Call (.Name x p) (e :: es) [] pos) (fCall dsp fr) := peMono (pe_call G hr hg hm hk hb .nil pass0 ha hdb he hpl) fun σ H Q h => by
  obtain ⟨F, O, P, ρ, R, g, en, q, po⟩ := h
  refine ⟨F, O, P, ρ, _, g, en, q, fun ds O1 F1 H1 vs q1 s1 g1 r1 => ?_⟩
  show liftSp X.K dsp (vs ++ []) H1 Q E0
  rw [List.append_nil]
  exact ⟨F1, O1, P, ds, R, X0, g1.mt, r1, q1, po.mt g1 s1, fun _ _ _ _ _ _ z => z.elim⟩
end
section
variable {P : Program} {w : World} {K : PySem.W.Frag} {mg : Str → Option Value} {base : Heap}
/-- the names' values at the entry -/
def startD (N : List Str) (ds : List D) : DEnv := ds.map some ++ List.replicate (N.length - ds.length) none
theorem fn_d {x qual : Str} {st : Stmt} {f : Addr} {fd : FuncData} {N ps : List Str} {k : Nat} {dsp : DSp} {g : GS} (F : Fun K x qual st f fd) (S : FnScope N ps (defScope st)) (len : ∀ ds O R RE, dsp ds O R RE → ds.length = ps.length)
    (hder : ∀ (cdv : Value) (A : Around) (outer : List Env) (s : Shared) (H : Hp) (E : XK), Room k (A.deeper (envOfC qual (defScope st) s.heap.objs.size f cdv)) →
      DSs MT (cxOf CX0 P w K mg base N qual (defScope st) f cdv A outer s H E).nox (defBody st) g)
    (hread : ∀ ds O R RE, dsp ds O R RE → g { nx := fun _ O' => R .non O', rt := R } (startD N ds) O) : FnOk P w K mg base CX0 (k + 1) f fd ps (liftSp K dsp) := by
  refine F.ok S (fun vs H Q E h => ?_) fun cdv A outer s H vs Q E hr h => ?_
  · obtain ⟨F, O, P, ds, R, RE, g, r, q, _⟩ := h
    rw [← r.length]; exact len ds O R RE q
  · obtain ⟨F, O, P, ds, R, RE, gd, r, q, po, _⟩ := h
    refine ⟨_, hder cdv A outer s H E hr, F, O, P, startD N ds, { nx := fun _ O' => R .non O', rt := R }, gd, ?_, hread ds O R RE q, ⟨fun ρ O' F' H' σ q1 s1 g1 _ => ?_, po, fun _ _ _ _ _ z => z.elim, fun _ _ _ _ _ z => z.elim⟩⟩
    · unfold startD L2.start
      rw [r.length]
      exact envOk_start _ r
    · exact po .non O' F' H' .non q1 s1 g1 (by simp only [Rep])
end
/-- no calls are left -/
theorem none_left {P : Program} {w : World} {K : PySem.W.Frag} {mg : Str → Option Value} {base : Heap} {CX : CXT} {f : Addr} {fd : FuncData} {ps : List Str} {dsp : DSp} {k : Nat} (no : ∀ ds O R RE, ¬ dsp ds O R RE) : FnOk P w K mg base CX k f fd ps (liftSp K dsp) := by
  have no' : ∀ vs H Q E, ¬ liftSp K dsp vs H Q E := fun vs H Q E h => by
    obtain ⟨F, O, P, ds, R, RE, g, r, q, _⟩ := h
    exact no ds O R RE q
  exact ⟨fun vs H Q E h => absurd h (no' vs H Q E), fun A outer s H args us vs Q E _ _ _ _ h => absurd h (no' vs H Q E)⟩
/-- the law's own promise -/
def lawSp (n : Nat) : DSp := fun ds _ R _ => ∃ ns : List Int, ds = [.scr ns] ∧ ns.length ≤ n ∧ ∀ O, R (.bl true) O
theorem law_start {K : PySem.W.Frag} {H : Hp} {a : Addr} {ns : List Int} {n : Nat} (hl : ns.length ≤ n) (h : SqL K H a (ns.map V.int)) : liftSp K (lawSp n) [.ref a] H (fun v _ => v = .bl true) fun _ _ _ => False := by
  refine ⟨fun b => if b = a then H b else none, fun _ => none, fun _ => none, [.scr ns], fun d _ => d = .bl true, X0, ⟨fun b o e => ?_, (fun _ _ e => nomatch e), (fun _ _ e => nomatch e), trivial⟩, ?_, ⟨ns, rfl, hl, fun _ => rfl⟩, fun d O' F' H' v q _ _ r => ?_, fun _ _ _ _ _ _ z => z.elim⟩
  · split at e
    · exact e
    · cases e
  · refine .one ?_
    simp only [Rep]
    refine ⟨a, rfl, ?_⟩
    rcases h with (h | ⟨o, h⟩) | h
    · exact .inl (.inl ((if_pos rfl).trans h))
    · exact .inl (.inr ⟨o, (if_pos rfl).trans h⟩)
    · exact .inr h
  · subst q
    simpa only [Rep] using r
end Kf
namespace Kf
open PySem PySem.Spec L2
open PyProof.Rows hiding St
variable {M : MX}

abbrev rSubD : R2D := rInts0 fun i j => .int (i - j)
abbrev rMulD : R2D := rInts CMul fun i j => .int (i * j)
abbrev rDivD : R2D := rInts CDv fun i j => .int (i / j)
abbrev rModD : R2D := rInts (fun _ j => 0 < j) fun i j => .int (i % j)
abbrev rPowD : R2D := rInts CPow fun i j => .int (i ^ j.toNat)
abbrev rGtD : R2D := rInts0 fun i j => .bl (decide (j < i))
abbrev rGeD : R2D := rInts0 fun i j => .bl (decide (j ≤ i))
abbrev rIAdd : R2D := rInts0 fun i j => .int (i + j)
theorem oi_add {X : Cx} : OpD M X (inplaceOp .Add) rIAdd := od_ints0 iop_add fun _ _ _ => by simp only [Rep]
theorem oi_sub {X : Cx} : OpD M X (inplaceOp .Sub) rSubD := od_ints0 iop_sub fun _ _ _ => by simp only [Rep]

theorem _root_.L2.Room.u200 {k : Nat} {A : Around} (r : Room k A) : A.units + 200 < cLine := by have := r.un; omega

/-- a def of the text: its place, its name, how it is called -/
structure Fn (K : PySem.W.Frag) (mg : Str → Option Value) (x : Str) (st : Stmt) (ps : List Str) (f : Addr) (fd : FuncData) : Prop where
  F : Fun K x x st f fd
  m : mg x = some (.ref f)
  b : Binds K fd ps []
section
variable {X : Cx} {e : Expr} {es : List Expr} {fr : FA} {k : Nat} {f : Addr} {fd : FuncData} {ps : List Str} {dsp : DSp} {x : Str} {st : Stmt} {p pos : Pos}
theorem de_callN (N : Fn X.K X.mg x st ps f fd) (G : FnOk X.prog X.w X.K X.mg X.base CX0 k f fd ps (liftSp X.K dsp)) (hr : Room k X.A) (hg : Gl X x)
    (ha : DA M X (e :: es) fr) (hdb : (x == ("__debug__" : Str)) = false := by decide) (he : starEach (e :: es) X.env = (false, eval e X.env) :: starEach es X.env := by rfl) (hpl : (backTo pos (starEach es X.env)).any (·.1) = false := by rfl) :
    DE M X (.Call (.Name x p) (e :: es) [] pos) (fCall dsp fr) := de_call G hr hg N.m N.F.kp N.b ha hdb he hpl
/-- a constant of the module -/
def Cst (K : PySem.W.Frag) (mg : Str → Option Value) (x : Str) (d : D) : Prop := ∃ u v, mg x = some u ∧ RelV v u ∧ ∀ F, Rep K F d v
theorem de_cst {d : D} (c : Cst X.K X.mg x d) (hg : Gl X x) (hd : (x == ("__debug__" : Str)) = false := by decide) : DE M X (.Name x pos) (fC d) := by
  obtain ⟨u, v, h1, h2, h3⟩ := c
  exact de_glob hg h1 h2 h3 hd
/-- a built-in class as a value -/
theorem de_ty {n : String} (hv : bootBuiltins x = some (.type n)) (hm : X.mg x = none) (hg : Gl X x) (hn : x ≠ "__name__" := by decide) (hd : (x == ("__debug__" : Str)) = false := by decide) : DE M X (.Name x pos) (fC (.ty n)) :=
  de_bltn (v := .ty n) hg hm hv rfl (fun _ => by simp only [Rep]) hn hd
end
theorem bb_len : bootBuiltins "len" = some (.builtin "len") := by decide +kernel
theorem bb_isinstance : bootBuiltins "isinstance" = some (.builtin "isinstance") := by decide +kernel
theorem bb_max : bootBuiltins "max" = some (.builtin "max") := by decide +kernel
theorem bb_min : bootBuiltins "min" = some (.builtin "min") := by decide +kernel
theorem bb_divmod : bootBuiltins "divmod" = some (.builtin "divmod") := by decide +kernel
theorem bb_sum : bootBuiltins "sum" = some (.builtin "sum") := by decide +kernel
theorem bb_sorted : bootBuiltins "sorted" = some (.builtin "sorted") := by decide +kernel
theorem bb_int : bootBuiltins "int" = some (.type "int") := by decide +kernel
theorem bb_str : bootBuiltins "str" = some (.type "str") := by decide +kernel
theorem bb_bool : bootBuiltins "bool" = some (.type "bool") := by decide +kernel
theorem bb_tuple : bootBuiltins "tuple" = some (.type "tuple") := by decide +kernel
theorem bb_list : bootBuiltins "list" = some (.type "list") := by decide +kernel
theorem bb_dict : bootBuiltins "dict" = some (.type "dict") := by decide +kernel

/-! ### ends that are known -/
theorem cst_int {K : PySem.W.Frag} {mg : Str → Option Value} {x : Str} {i : Int} {t : Tok} (h : mg x = some (.int i t)) : Cst K mg x (.int i) := ⟨_, .int i, h, ⟨t, rfl⟩, fun _ => by simp only [Rep]⟩
theorem cst_str {K : PySem.W.Frag} {mg : Str → Option Value} {x y : Str} {t : Tok} (h : mg x = some (.str y t)) : Cst K mg x (.str y) := ⟨_, .str y, h, ⟨t, rfl⟩, fun _ => by simp only [Rep]⟩
/-- a tuple of texts that stands in the written part -/
theorem cst_strs {K : PySem.W.Frag} {mg : Str → Option Value} {x : Str} {a : Addr} {o : Obj} {its : Array Value} {n : Nat} {ys : List Str} (h : mg x = some (.ref a)) (h1 : K.lookup a = some o) (h2 : o.cls = .type "tuple") (h3 : o.data = .seq its n)
    (h4 : Vals (ys.map V.str) its.toList) (h5 : ys.length ≤ sizeLine) : Cst K mg x (.tup (ys.map .str)) := by
  refine ⟨_, .ref a, h, rfl, fun F => ?_⟩
  simp only [Rep]
  refine ⟨a, ys.map V.str, rfl, .inr ⟨o, its, n, h1, h2, h3, ?_, h4⟩, .of_strs⟩
  have h6 : ys.length = its.size := by
    have := h4.length
    rw [List.length_map] at this
    rw [this]; simp
  omega
end Kf
namespace Kf
open PySem PySem.Spec L2
open PyProof.Rows hiding St
variable {M : MX}

/-! ### the readings at known data -/
section
variable {O : Ow} {Q : VD} {i j : Int} {a b : Str} {xs ys : List D} {d e x y z u : D} {p : Addr} {neg : Bool} {ns : List Int}
theorem deref_ref (h : O p = some (.lst xs)) : deref O (.ref p) = .lst xs := by simp only [deref, h]
theorem deref_tup : deref O (.tup xs) = .tup xs := rfl
theorem deref_lst : deref O (.lst xs) = .lst xs := rfl
theorem deref_int : deref O (.int i) = .int i := rfl
theorem deref_str : deref O (.str a) = .str a := rfl
theorem deref_bl {k : Bool} : deref O (.bl k) = .bl k := rfl
theorem deref_non : deref O .non = .non := rfl
theorem deref_scr : deref O (.scr ns) = .scr ns := rfl
theorem rLt_i : rLtD (.int i) (.int j) O Q = Q (.bl (decide (i < j))) O := rfl
theorem rLt_s : rLtD (.str a) (.str b) O Q = Q (.bl (decide (a.cps.toList < b.cps.toList))) O := rfl
theorem rLe_i : rLeD (.int i) (.int j) O Q = Q (.bl (decide (i ≤ j))) O := rfl
theorem rLe_s : rLeD (.str a) (.str b) O Q = Q (.bl (!decide (b.cps.toList < a.cps.toList))) O := rfl
theorem rInts_i {C : Int → Int → Prop} {f : Int → Int → D} : rInts C f (.int i) (.int j) O Q = (C i j ∧ Q (f i j) O) := rfl
theorem rInts0_i {f : Int → Int → D} : rInts0 f (.int i) (.int j) O Q = Q (f i j) O := rfl
theorem rAdd_i : rAddD (.int i) (.int j) O Q = Q (.int (i + j)) O := rfl
theorem rAdd_ib {k : Bool} : rAddD (.int i) (.bl k) O Q = Q (.int (i + b2i k)) O := rfl
theorem rAdd_s : rAddD (.str a) (.str b) O Q = (a.length + b.length ≤ sizeLine ∧ Q (.str (a ++ b)) O) := rfl
theorem rAdd_l : rAddD (.lst xs) (.lst ys) O Q = (xs.length + ys.length ≤ sizeLine ∧ Q (.lst (xs ++ ys)) O) := rfl
theorem rAdd_t : rAddD (.tup xs) (.tup ys) O Q = (xs ≠ [] ∧ xs.length + ys.length ≤ sizeLine ∧ Q (.tup (xs ++ ys)) O) := rfl
theorem rCatO_l : rCatO (.lst xs) (.lst ys) O Q = (xs.length + ys.length ≤ sizeLine ∧ ∀ p, O p = none → Q (.ref p) (updO O p (.lst (xs ++ ys)))) := rfl
theorem rNeg_i : rNeg (.int i) O Q = Q (.int (-i)) O := rfl
theorem rLen_t : rLenD [.tup xs] O Q = Q (.int xs.length) O := rfl
theorem rLen_l : rLenD [.lst xs] O Q = Q (.int xs.length) O := rfl
theorem rLen_c : rLenD [.scr ns] O Q = Q (.int ns.length) O := rfl
theorem rLen_s : rLenD [.str a] O Q = (a.length ≤ sizeLine ∧ Q (.int a.length) O) := rfl
theorem rLen_r (h : O p = some (.lst xs)) : rLenD [.ref p] O Q = Q (.int xs.length) O := by simp only [rLenD, deref, h]
theorem rMax_i : rMax2 [.int i, .int j] O Q = Q (.int (if j > i then j else i)) O := rfl
theorem rMin_i : rMin2 [.int i, .int j] O Q = Q (.int (if j < i then j else i)) O := rfl
theorem rDivmod_i : rDivmod [.int i, .int j] O Q = (CDv i j ∧ Q (.tup [.int (i / j), .int (i % j)]) O) := rfl
theorem rInt_i : rInt1 [.int i] O Q = Q (.int i) O := rfl
theorem rInt_b {k : Bool} : rInt1 [.bl k] O Q = Q (.int (if k then 1 else 0)) O := rfl
theorem rStr_i : rStr1 [.int i] O Q = (i.natAbs.log2 < 1920 ∧ Q (.str (toString i)) O) := rfl
theorem rList_l : rList1 [.lst xs] O Q = Q (.lst xs) O := rfl
theorem rList_t : rList1 [.tup xs] O Q = Q (.lst xs) O := rfl
theorem rListO_l : rList1O [.lst xs] O Q = ∀ p, O p = none → Q (.ref p) (updO O p (.lst xs)) := rfl
theorem rListO_t : rList1O [.tup xs] O Q = ∀ p, O p = none → Q (.ref p) (updO O p (.lst xs)) := rfl
theorem rTup_l : rTup1 [.lst xs] O Q = Q (.tup xs) O := rfl
theorem rTup_t : rTup1 [.tup xs] O Q = Q (.tup xs) O := rfl
theorem rSum_l {ns : List Int} (h : asInts xs = some ns) : rSumD [.lst xs] O Q = Q (.int ns.sum) O := by simp only [rSumD, deref, h]
theorem ixC0 {α : Type} (x : α) (r : List α) : atI (x :: r) 0 = some x := by
  have := atI_nat (xs := x :: r) (j := 0) (v := x) rfl
  simpa using this
theorem ixC1 {α : Type} (x y : α) (r : List α) : atI (x :: y :: r) 1 = some y := by
  have := atI_nat (xs := x :: y :: r) (j := 1) (v := y) rfl
  simpa using this
theorem ixC2 {α : Type} (x y z : α) (r : List α) : atI (x :: y :: z :: r) 2 = some z := by
  have := atI_nat (xs := x :: y :: z :: r) (j := 2) (v := z) rfl
  simpa using this
theorem ixC3 {α : Type} (x y z u : α) (r : List α) : atI (x :: y :: z :: u :: r) 3 = some u := by
  have := atI_nat (xs := x :: y :: z :: u :: r) (j := 3) (v := u) rfl
  simpa using this
theorem rIx_t (h : atI xs i = some d) : rIxD (.tup xs) (.int i) O Q = Q d O := by simp only [rIxD, deref, h]
theorem rIx_l (h : atI xs i = some d) : rIxD (.lst xs) (.int i) O Q = Q d O := by simp only [rIxD, deref, h]
theorem rIx_c {n : Int} (h : atI ns i = some n) : rIxD (.scr ns) (.int i) O Q = Q (.int n) O := by simp only [rIxD, deref, h]
theorem rIx_s {c : Nat} (h : atI a.cps.toList i = some c) : rIxD (.str a) (.int i) O Q = (a.length ≤ sizeLine ∧ Q (.str ⟨#[c]⟩) O) := by simp only [rIxD, deref, h]
theorem rIx_r (h' : O p = some (.lst xs)) (h : atI xs i = some d) : rIxD (.ref p) (.int i) O Q = Q d O := by simp only [rIxD, deref, h', h]
theorem rIx_t0 : rIxD (.tup (x :: xs)) (.int 0) O Q = Q x O := rIx_t (ixC0 _ _)
theorem rIx_t1 : rIxD (.tup (x :: y :: xs)) (.int 1) O Q = Q y O := rIx_t (ixC1 _ _ _)
theorem rIx_t2 : rIxD (.tup (x :: y :: z :: xs)) (.int 2) O Q = Q z O := rIx_t (ixC2 _ _ _ _)
theorem rIx_t3 : rIxD (.tup (x :: y :: z :: u :: xs)) (.int 3) O Q = Q u O := rIx_t (ixC3 _ _ _ _ _)
theorem rIx_l0 : rIxD (.lst (x :: xs)) (.int 0) O Q = Q x O := rIx_l (ixC0 _ _)
theorem rIx_l1 : rIxD (.lst (x :: y :: xs)) (.int 1) O Q = Q y O := rIx_l (ixC1 _ _ _)
theorem rIx_l2 : rIxD (.lst (x :: y :: z :: xs)) (.int 2) O Q = Q z O := rIx_l (ixC2 _ _ _ _)
theorem rIx_p0 (h : O p = some .pool) : rIxD (.ref p) (.int 0) O Q = ∀ x : Int, 0 ≤ x → Q (.int x) O := by
  simp only [rIxD, deref, h]; simp
theorem rIx_p1 (h : O p = some .pool) : rIxD (.ref p) (.int 1) O Q = ∀ x : Int, 0 ≤ x → x < 2147483647 → Q (.int x) O := by
  simp only [rIxD, deref, h]; simp
theorem rIsN_non : rIsN neg .non .non O Q = Q (.bl (neg ^^ true)) O := rfl
theorem rIsN_t : rIsN neg (.tup xs) .non O Q = Q (.bl (neg ^^ false)) O := rfl
theorem rIsN_x : rIsN neg x .non O Q = Q (.bl (neg ^^ isNon x)) O := rfl
theorem isNon_t : isNon (.tup xs) = false := rfl
theorem isNon_n : isNon .non = true := rfl
theorem isNon_i : isNon (.int i) = false := rfl
theorem isNon_s : isNon (.str a) = false := rfl
theorem isNon_l : isNon (.lst xs) = false := rfl
/-! == -/
/-- == of data -/
def deq (x y : D) : Bool := PyData.eqv (toPy x) (toPy y)
def deqs (xs ys : List D) : Bool := PyData.eqvAll (toPys xs) (toPys ys)
theorem deq_t : deq (.tup xs) (.tup ys) = deqs xs ys := by simp only [deq, toPy, PyData.eqv, deqs]
theorem deq_l : deq (.lst xs) (.lst ys) = deqs xs ys := by simp only [deq, toPy, PyData.eqv, deqs]
theorem deq_tl : deq (.tup xs) (.lst ys) = false := by simp only [deq, toPy, PyData.eqv]
theorem deq_lt : deq (.lst xs) (.tup ys) = false := by simp only [deq, toPy, PyData.eqv]
theorem deq_ts : deq (.tup xs) (.str a) = false := by simp only [deq, toPy, PyData.eqv]
theorem deq_st : deq (.str a) (.tup xs) = false := by simp only [deq, toPy, PyData.eqv]
theorem deq_ls : deq (.lst xs) (.str a) = false := by simp only [deq, toPy, PyData.eqv]
theorem deq_sl : deq (.str a) (.lst xs) = false := by simp only [deq, toPy, PyData.eqv]
theorem deq_ti : deq (.tup xs) (.int i) = false := by simp only [deq, toPy, PyData.eqv]
theorem deq_it : deq (.int i) (.tup xs) = false := by simp only [deq, toPy, PyData.eqv]
theorem deq_li : deq (.lst xs) (.int i) = false := by simp only [deq, toPy, PyData.eqv]
theorem deq_il : deq (.int i) (.lst xs) = false := by simp only [deq, toPy, PyData.eqv]
theorem deq_is : deq (.int i) (.str a) = false := by simp only [deq, toPy, PyData.eqv]
theorem deq_si : deq (.str a) (.int i) = false := by simp only [deq, toPy, PyData.eqv]
theorem deq_nt : deq .non (.tup xs) = false := by simp only [deq, toPy, PyData.eqv]
theorem deq_tn : deq (.tup xs) .non = false := by simp only [deq, toPy, PyData.eqv]
theorem deq_nn : deq .non .non = true := by simp only [deq, toPy, PyData.eqv]
theorem deq_ns : deq .non (.str a) = false := by simp only [deq, toPy, PyData.eqv]
theorem deq_sn : deq (.str a) .non = false := by simp only [deq, toPy, PyData.eqv]
theorem str_beq (a b : Str) : (a == b) = decide (a = b) := by
  by_cases h : a = b
  · subst h; simp
  · rw [decide_eq_false h]; exact beq_eq_false_iff_ne.mpr h
theorem deq_s : deq (.str a) (.str b) = decide (a = b) := by simp only [deq, toPy, PyData.eqv, str_beq]
theorem deq_i : deq (.int i) (.int j) = decide (i = j) := by simp only [deq, toPy, PyData.eqv, Bool.beq_eq_decide_eq]
theorem deq_b {k l : Bool} : deq (.bl k) (.bl l) = decide (k = l) := by simp only [deq, toPy, PyData.eqv, Bool.beq_eq_decide_eq]
theorem deqs_nn : deqs [] [] = true := by simp only [deqs, toPys, PyData.eqvAll]
theorem deqs_nc : deqs [] (y :: ys) = false := by simp only [deqs, toPys, PyData.eqvAll]
theorem deqs_cn : deqs (x :: xs) [] = false := by simp only [deqs, toPys, PyData.eqvAll]
theorem deqs_cc : deqs (x :: xs) (y :: ys) = (deq x y && deqs xs ys) := by simp only [deqs, deq, toPys, PyData.eqvAll]
/-- == at data read through: what is asked, what is answered -/
theorem rEq_dd (hx : isPy (ddf O 192 x) = true) (hy : isPy (ddf O 192 y) = true) (hd : dp (ddf O 192 x) ≤ 190) : rEqD neg x y O Q = Q (.bl (neg ^^ deq (ddf O 192 x) (ddf O 192 y))) O := by
  have hm : min (dp (ddf O 192 x)) (dp (ddf O 192 y)) ≤ 190 := Nat.le_trans (Nat.min_le_left _ _) hd
  simp only [rEqD, hx, hy, hm, deq, true_and]
/-- .. where the right one is flat -/
theorem rEq_dr (hx : isPy (deref O x) = true) (hy : isPy (deref O y) = true) (hd : dp (deref O y) ≤ 190) : rEqD neg x y O Q = Q (.bl (neg ^^ deq (deref O x) (deref O y))) O := by
  have ex : ddf O 192 x = deref O x := ddf_deref hx
  have ey : ddf O 192 y = deref O y := ddf_deref hy
  have hm : min (dp (deref O x)) (dp (deref O y)) ≤ 190 := Nat.le_trans (Nat.min_le_right _ _) hd
  simp only [rEqD, ex, ey, hx, hy, hm, deq, true_and]
/-- == at data: what is asked, what is answered -/
theorem rEq_d (hx : isPy (deref O x) = true) (hy : isPy (deref O y) = true) (hd : dp (deref O x) ≤ 190) : rEqD neg x y O Q = Q (.bl (neg ^^ deq (deref O x) (deref O y))) O := by
  have ex : ddf O 192 x = deref O x := ddf_deref hx
  have ey : ddf O 192 y = deref O y := ddf_deref hy
  rw [rEq_dd (by rw [ex]; exact hx) (by rw [ey]; exact hy) (by rw [ex]; exact hd), ex, ey]
theorem rEq_i : rEqD neg (.int i) (.int j) O Q = Q (.bl (neg ^^ decide (i = j))) O := by
  rw [rEq_d (by simp only [deref, isPy]) (by simp only [deref, isPy]) (by simp [deref, dp, toPy, PyData.depth]), deref_int, deref_int, deq_i]
theorem rEq_b {k l : Bool} : rEqD neg (.bl k) (.bl l) O Q = Q (.bl (neg ^^ decide (k = l))) O := by
  rw [rEq_d (by simp only [deref, isPy]) (by simp only [deref, isPy]) (by simp [deref, dp, toPy, PyData.depth]), deref_bl, deref_bl, deq_b]
theorem rEq_s (h1 : PyData.strOk a = true) (h2 : PyData.strOk b = true) : rEqD neg (.str a) (.str b) O Q = Q (.bl (neg ^^ decide (a = b))) O := by
  rw [rEq_d (by simpa only [deref, isPy] using h1) (by simpa only [deref, isPy] using h2) (by simp [deref, dp, toPy, PyData.depth]), deref_str, deref_str, deq_s]
theorem rIsi_ty {n : String} (h1 : insCl.contains n = true) (h2 : insTy.contains (tyNm O x) = true) : rIsiD [x, .ty n] O Q = Q (.bl (insOf (tyNm O x) n)) O := by
  simp only [rIsiD, h1, h2, true_and]
theorem rApp_r (h : O p = some (.lst xs)) : rAppendD (.ref p) [y] O Q = (xs.length < sizeLine ∧ Q .non (updO O p (.lst (xs ++ [y])))) := by simp only [rAppendD, h]
theorem rExt_r (h : O p = some (.lst xs)) (h' : deref O y = .lst ys) : rExtendD (.ref p) [y] O Q = (xs.length + ys.length ≤ sizeLine ∧ Q .non (updO O p (.lst (xs ++ ys)))) := by simp only [rExtendD, h, h']
theorem rPop_r (h : O p = some (.lst xs)) (h' : xs[xs.length - 1]? = some d) : rPopD (.ref p) [] O Q = Q d (updO O p (.lst xs.dropLast)) := by simp only [rPopD, h, h']
theorem rPop_app (h : O p = some (.lst (xs ++ [d]))) : rPopD (.ref p) [] O Q = Q d (updO O p (.lst xs)) := by
  rw [rPop_r h (d := d) (by simp), List.dropLast_concat]
theorem tyOk_r (h : O p = some (.lst xs)) : tyOk "list" O (.ref p) = true := by simp [tyOk, tyNm, h]
theorem tyOk_l : tyOk "list" O (.lst xs) = true := rfl
theorem tyOk_s : tyOk "str" O (.str a) = true := rfl
theorem rPool_i : rPool [.int i, .int j] O Q = (0 ≤ i ∧ 0 ≤ j ∧ j < 2147483647 ∧ ∀ p, O p = none → Q (.ref p) (updO O p .pool)) := rfl
theorem rSet_p0 {N : Ow → Prop} (h : O p = some .pool) : rSetD (.ref p) (.int 0) (.int i) O N = (0 ≤ i ∧ N O) := by
  simp only [rSetD, h]; simp
theorem rSet_p1 {N : Ow → Prop} (h : O p = some .pool) : rSetD (.ref p) (.int 1) (.int i) O N = ((0 ≤ i ∧ i < 2147483647) ∧ N O) := by
  simp only [rSetD, h]; simp
theorem rSet_r {N : Ow → Prop} {k : Nat} (h : O p = some (.lst xs)) (h' : ixN xs.length i = some k) : rSetD (.ref p) (.int i) d O N = N (updO O p (.lst (xs.set k d))) := by
  simp only [rSetD, h, h']
end
theorem sz_small {n : Nat} (h : n ≤ 1000000) : n ≤ sizeLine := by have := sizeLine_eq; omega
theorem sz_small' {n : Nat} (h : n < 1000000) : n < sizeLine := by have := sizeLine_eq; omega
theorem notX {b : Bool} : (true ^^ b) = !b := Bool.true_xor b
theorem notX' {b : Bool} : (false ^^ b) = b := Bool.false_xor b
/-- patterns -/
theorem patD_nm {i : Nat} {d : D} {ρ : DEnv} : patD (.nm i) d ρ = some (ρ.set i (some d)) := by simp only [patD]
theorem patD_tp {ps : List Pat} {ds : List D} {ρ : DEnv} : patD (.tp ps) (.tup ds) ρ = patDs ps ds ρ := by simp only [patD]
theorem patDs_nil {ρ : DEnv} : patDs [] [] ρ = some ρ := by simp only [patDs]
theorem patDs_cons {p : Pat} {ps : List Pat} {d : D} {ds : List D} {ρ : DEnv} : patDs (p :: ps) (d :: ds) ρ = (patD p d ρ).bind (patDs ps ds) := by simp only [patDs]
/-- a walk that keeps a word -/
theorem forD_inv {p : Pat} {gb : GS} {R : DEnds} (I : DEnv → Ow → Prop) : ∀ (ds : List D) (ρ : DEnv) (O : Ow), I ρ O → (∀ ρ O, I ρ O → R.nx ρ O) →
    (∀ d ∈ ds, ∀ ρ O, I ρ O → ∀ N, (∀ ρ O, I ρ O → N ρ O) → patGet (patD p d ρ) fun ρ1 => gb { R with nx := N, ct := N, bk := R.nx } ρ1 O) → forD p gb R ds ρ O
  | [], ρ, O, h, hd, _ => hd ρ O h
  | d :: ds, ρ, O, h, hd, hs => by
    have q := hs d List.mem_cons_self ρ O h (forD p gb R ds) fun ρ' O' h' => forD_inv I ds ρ' O' h' hd fun d' hm => hs d' (List.mem_cons_of_mem _ hm)
    unfold forD
    exact q

theorem isi_i_int {i : Int} {O : Ow} {Q : VD} : rIsiD [(.int i), .ty "int"] O Q = Q (.bl true) O := by simp [rIsiD, insCl, insTy, tyNm, insOf]
theorem isi_i_bool {i : Int} {O : Ow} {Q : VD} : rIsiD [(.int i), .ty "bool"] O Q = Q (.bl false) O := by simp [rIsiD, insCl, insTy, tyNm, insOf]
theorem isi_i_str {i : Int} {O : Ow} {Q : VD} : rIsiD [(.int i), .ty "str"] O Q = Q (.bl false) O := by simp [rIsiD, insCl, insTy, tyNm, insOf]
theorem isi_i_tuple {i : Int} {O : Ow} {Q : VD} : rIsiD [(.int i), .ty "tuple"] O Q = Q (.bl false) O := by simp [rIsiD, insCl, insTy, tyNm, insOf]
theorem isi_i_list {i : Int} {O : Ow} {Q : VD} : rIsiD [(.int i), .ty "list"] O Q = Q (.bl false) O := by simp [rIsiD, insCl, insTy, tyNm, insOf]
theorem isi_i_dict {i : Int} {O : Ow} {Q : VD} : rIsiD [(.int i), .ty "dict"] O Q = Q (.bl false) O := by simp [rIsiD, insCl, insTy, tyNm, insOf]
theorem isi_b_int {k : Bool} {O : Ow} {Q : VD} : rIsiD [(.bl k), .ty "int"] O Q = Q (.bl true) O := by simp [rIsiD, insCl, insTy, tyNm, insOf]
theorem isi_b_bool {k : Bool} {O : Ow} {Q : VD} : rIsiD [(.bl k), .ty "bool"] O Q = Q (.bl true) O := by simp [rIsiD, insCl, insTy, tyNm, insOf]
theorem isi_b_str {k : Bool} {O : Ow} {Q : VD} : rIsiD [(.bl k), .ty "str"] O Q = Q (.bl false) O := by simp [rIsiD, insCl, insTy, tyNm, insOf]
theorem isi_b_tuple {k : Bool} {O : Ow} {Q : VD} : rIsiD [(.bl k), .ty "tuple"] O Q = Q (.bl false) O := by simp [rIsiD, insCl, insTy, tyNm, insOf]
theorem isi_b_list {k : Bool} {O : Ow} {Q : VD} : rIsiD [(.bl k), .ty "list"] O Q = Q (.bl false) O := by simp [rIsiD, insCl, insTy, tyNm, insOf]
theorem isi_b_dict {k : Bool} {O : Ow} {Q : VD} : rIsiD [(.bl k), .ty "dict"] O Q = Q (.bl false) O := by simp [rIsiD, insCl, insTy, tyNm, insOf]
theorem isi_s_int {a : Str} {O : Ow} {Q : VD} : rIsiD [(.str a), .ty "int"] O Q = Q (.bl false) O := by simp [rIsiD, insCl, insTy, tyNm, insOf]
theorem isi_s_bool {a : Str} {O : Ow} {Q : VD} : rIsiD [(.str a), .ty "bool"] O Q = Q (.bl false) O := by simp [rIsiD, insCl, insTy, tyNm, insOf]
theorem isi_s_str {a : Str} {O : Ow} {Q : VD} : rIsiD [(.str a), .ty "str"] O Q = Q (.bl true) O := by simp [rIsiD, insCl, insTy, tyNm, insOf]
theorem isi_s_tuple {a : Str} {O : Ow} {Q : VD} : rIsiD [(.str a), .ty "tuple"] O Q = Q (.bl false) O := by simp [rIsiD, insCl, insTy, tyNm, insOf]
theorem isi_s_list {a : Str} {O : Ow} {Q : VD} : rIsiD [(.str a), .ty "list"] O Q = Q (.bl false) O := by simp [rIsiD, insCl, insTy, tyNm, insOf]
theorem isi_s_dict {a : Str} {O : Ow} {Q : VD} : rIsiD [(.str a), .ty "dict"] O Q = Q (.bl false) O := by simp [rIsiD, insCl, insTy, tyNm, insOf]
theorem isi_t_int {xs : List D} {O : Ow} {Q : VD} : rIsiD [(.tup xs), .ty "int"] O Q = Q (.bl false) O := by simp [rIsiD, insCl, insTy, tyNm, insOf]
theorem isi_t_bool {xs : List D} {O : Ow} {Q : VD} : rIsiD [(.tup xs), .ty "bool"] O Q = Q (.bl false) O := by simp [rIsiD, insCl, insTy, tyNm, insOf]
theorem isi_t_str {xs : List D} {O : Ow} {Q : VD} : rIsiD [(.tup xs), .ty "str"] O Q = Q (.bl false) O := by simp [rIsiD, insCl, insTy, tyNm, insOf]
theorem isi_t_tuple {xs : List D} {O : Ow} {Q : VD} : rIsiD [(.tup xs), .ty "tuple"] O Q = Q (.bl true) O := by simp [rIsiD, insCl, insTy, tyNm, insOf]
theorem isi_t_list {xs : List D} {O : Ow} {Q : VD} : rIsiD [(.tup xs), .ty "list"] O Q = Q (.bl false) O := by simp [rIsiD, insCl, insTy, tyNm, insOf]
theorem isi_t_dict {xs : List D} {O : Ow} {Q : VD} : rIsiD [(.tup xs), .ty "dict"] O Q = Q (.bl false) O := by simp [rIsiD, insCl, insTy, tyNm, insOf]
theorem isi_l_int {xs : List D} {O : Ow} {Q : VD} : rIsiD [(.lst xs), .ty "int"] O Q = Q (.bl false) O := by simp [rIsiD, insCl, insTy, tyNm, insOf]
theorem isi_l_bool {xs : List D} {O : Ow} {Q : VD} : rIsiD [(.lst xs), .ty "bool"] O Q = Q (.bl false) O := by simp [rIsiD, insCl, insTy, tyNm, insOf]
theorem isi_l_str {xs : List D} {O : Ow} {Q : VD} : rIsiD [(.lst xs), .ty "str"] O Q = Q (.bl false) O := by simp [rIsiD, insCl, insTy, tyNm, insOf]
theorem isi_l_tuple {xs : List D} {O : Ow} {Q : VD} : rIsiD [(.lst xs), .ty "tuple"] O Q = Q (.bl false) O := by simp [rIsiD, insCl, insTy, tyNm, insOf]
theorem isi_l_list {xs : List D} {O : Ow} {Q : VD} : rIsiD [(.lst xs), .ty "list"] O Q = Q (.bl true) O := by simp [rIsiD, insCl, insTy, tyNm, insOf]
theorem isi_l_dict {xs : List D} {O : Ow} {Q : VD} : rIsiD [(.lst xs), .ty "dict"] O Q = Q (.bl false) O := by simp [rIsiD, insCl, insTy, tyNm, insOf]
theorem isi_n_int  {O : Ow} {Q : VD} : rIsiD [.non, .ty "int"] O Q = Q (.bl false) O := by simp [rIsiD, insCl, insTy, tyNm, insOf]
theorem isi_n_bool  {O : Ow} {Q : VD} : rIsiD [.non, .ty "bool"] O Q = Q (.bl false) O := by simp [rIsiD, insCl, insTy, tyNm, insOf]
theorem isi_n_str  {O : Ow} {Q : VD} : rIsiD [.non, .ty "str"] O Q = Q (.bl false) O := by simp [rIsiD, insCl, insTy, tyNm, insOf]
theorem isi_n_tuple  {O : Ow} {Q : VD} : rIsiD [.non, .ty "tuple"] O Q = Q (.bl false) O := by simp [rIsiD, insCl, insTy, tyNm, insOf]
theorem isi_n_list  {O : Ow} {Q : VD} : rIsiD [.non, .ty "list"] O Q = Q (.bl false) O := by simp [rIsiD, insCl, insTy, tyNm, insOf]
theorem isi_n_dict  {O : Ow} {Q : VD} : rIsiD [.non, .ty "dict"] O Q = Q (.bl false) O := by simp [rIsiD, insCl, insTy, tyNm, insOf]
theorem isi_d_int  {O : Ow} {Q : VD} : rIsiD [.edic, .ty "int"] O Q = Q (.bl false) O := by simp [rIsiD, insCl, insTy, tyNm, insOf]
theorem isi_d_bool  {O : Ow} {Q : VD} : rIsiD [.edic, .ty "bool"] O Q = Q (.bl false) O := by simp [rIsiD, insCl, insTy, tyNm, insOf]
theorem isi_d_str  {O : Ow} {Q : VD} : rIsiD [.edic, .ty "str"] O Q = Q (.bl false) O := by simp [rIsiD, insCl, insTy, tyNm, insOf]
theorem isi_d_tuple  {O : Ow} {Q : VD} : rIsiD [.edic, .ty "tuple"] O Q = Q (.bl false) O := by simp [rIsiD, insCl, insTy, tyNm, insOf]
theorem isi_d_list  {O : Ow} {Q : VD} : rIsiD [.edic, .ty "list"] O Q = Q (.bl false) O := by simp [rIsiD, insCl, insTy, tyNm, insOf]
theorem isi_d_dict  {O : Ow} {Q : VD} : rIsiD [.edic, .ty "dict"] O Q = Q (.bl true) O := by simp [rIsiD, insCl, insTy, tyNm, insOf]
theorem isi_r_int {p : Addr} {xs : List D} {O : Ow} {Q : VD} (h : O p = some (.lst xs)) : rIsiD [.ref p, .ty "int"] O Q = Q (.bl false) O := by simp [rIsiD, insCl, insTy, tyNm, insOf, h]
theorem isi_r_bool {p : Addr} {xs : List D} {O : Ow} {Q : VD} (h : O p = some (.lst xs)) : rIsiD [.ref p, .ty "bool"] O Q = Q (.bl false) O := by simp [rIsiD, insCl, insTy, tyNm, insOf, h]
theorem isi_r_str {p : Addr} {xs : List D} {O : Ow} {Q : VD} (h : O p = some (.lst xs)) : rIsiD [.ref p, .ty "str"] O Q = Q (.bl false) O := by simp [rIsiD, insCl, insTy, tyNm, insOf, h]
theorem isi_r_tuple {p : Addr} {xs : List D} {O : Ow} {Q : VD} (h : O p = some (.lst xs)) : rIsiD [.ref p, .ty "tuple"] O Q = Q (.bl false) O := by simp [rIsiD, insCl, insTy, tyNm, insOf, h]
theorem isi_r_list {p : Addr} {xs : List D} {O : Ow} {Q : VD} (h : O p = some (.lst xs)) : rIsiD [.ref p, .ty "list"] O Q = Q (.bl true) O := by simp [rIsiD, insCl, insTy, tyNm, insOf, h]
theorem isi_r_dict {p : Addr} {xs : List D} {O : Ow} {Q : VD} (h : O p = some (.lst xs)) : rIsiD [.ref p, .ty "dict"] O Q = Q (.bl false) O := by simp [rIsiD, insCl, insTy, tyNm, insOf, h]
end Kf
namespace Kf
open PySem PySem.Spec L2
open PyProof.Rows hiding St
variable {M : MX}

/-! ### kinds -/
inductive Kd where
  | mk (m : Str) | one | to (a b : Kd) | both (a b : Kd)
  deriving DecidableEq, Inhabited
def dK : Kd → D
  | .mk m => .tup [.str "mark", .str m]
  | .one => .tup [.str "one"]
  | .to a b => .tup [.str "to", dK a, dK b]
  | .both a b => .tup [.str "both", dK a, dK b]
def Kd.leaves : Kd → Nat
  | .mk _ => 1
  | .one => 1
  | .to a b => a.leaves + b.leaves
  | .both a b => a.leaves + b.leaves
def Kd.depth : Kd → Nat
  | .mk _ => 0
  | .one => 0
  | .to a b => max a.depth b.depth + 1
  | .both a b => max a.depth b.depth + 1
theorem Kd.depth_lt : ∀ k : Kd, k.depth < k.leaves
  | .mk _ => by simp [depth, leaves]
  | .one => by simp [depth, leaves]
  | .to a b => by have := a.depth_lt; have := b.depth_lt; simp only [depth, leaves]; omega
  | .both a b => by have := a.depth_lt; have := b.depth_lt; simp only [depth, leaves]; omega
def Kd.ok : Kd → Bool
  | .mk m => PyData.strOk m
  | .one => true
  | .to a b => a.ok && b.ok
  | .both a b => a.ok && b.ok
theorem so_mark : PyData.strOk "mark" = true := by decide +kernel
theorem so_one : PyData.strOk "one" = true := by decide +kernel
theorem so_to : PyData.strOk "to" = true := by decide +kernel
theorem so_both : PyData.strOk "both" = true := by decide +kernel
theorem isPy_dK : ∀ k : Kd, isPy (dK k) = k.ok
  | .mk m => by simp [dK, isPy, isPys, Kd.ok, so_mark]
  | .one => by simp [dK, isPy, isPys, Kd.ok, so_one]
  | .to a b => by simp [dK, isPy, isPys, Kd.ok, so_to, isPy_dK a, isPy_dK b]
  | .both a b => by simp [dK, isPy, isPys, Kd.ok, so_both, isPy_dK a, isPy_dK b]
theorem dpT (ds : List D) : dp (.tup ds) = PyData.depthAll (toPys ds) + 1 := by simp [dp, toPy, PyData.depth]
theorem dpL (ds : List D) : dp (.lst ds) = PyData.depthAll (toPys ds) + 1 := by simp [dp, toPy, PyData.depth]
theorem dpC (d : D) (ds : List D) : PyData.depthAll (toPys (d :: ds)) = max (dp d) (PyData.depthAll (toPys ds)) := by simp [dp, toPys, PyData.depthAll]
theorem dpN : PyData.depthAll (toPys []) = 0 := by simp [toPys, PyData.depthAll]
theorem dpS (x : Str) : dp (.str x) = 0 := by simp [dp, toPy, PyData.depth]
theorem dpI (x : Int) : dp (.int x) = 0 := by simp [dp, toPy, PyData.depth]
theorem dpB (x : Bool) : dp (.bl x) = 0 := by simp [dp, toPy, PyData.depth]
theorem dpO : dp .non = 0 := by simp [dp, toPy, PyData.depth]
theorem dp_dK : ∀ k : Kd, dp (dK k) = k.depth + 1
  | .mk m => by simp [dK, dpT, dpC, dpN, dpS, Kd.depth]
  | .one => by simp [dK, dpT, dpC, dpN, dpS, Kd.depth]
  | .to a b => by simp [dK, dpT, dpC, dpN, dpS, Kd.depth, dp_dK a, dp_dK b]
  | .both a b => by simp [dK, dpT, dpC, dpN, dpS, Kd.depth, dp_dK a, dp_dK b]
theorem dps_le {n : Nat} : ∀ {ds : List D}, (∀ d ∈ ds, dp d ≤ n) → PyData.depthAll (toPys ds) ≤ n
  | [], _ => by rw [dpN]; omega
  | d :: ds, h => by
    rw [dpC]
    exact Nat.max_le.mpr ⟨h d List.mem_cons_self, dps_le fun e he => h e (List.mem_cons_of_mem _ he)⟩
theorem deref_dK {O : Ow} (k : Kd) : deref O (dK k) = dK k := by cases k <;> rfl
theorem sd_tb : decide (Str.ofString "to" = Str.ofString "both") = false := by decide +kernel
theorem sd_bt : decide (Str.ofString "both" = Str.ofString "to") = false := by decide +kernel
/-- == of kinds is = -/
theorem deq_K : ∀ a b : Kd, deq (dK a) (dK b) = decide (a = b) := by
  intro a
  induction a with
  | mk m => intro b; cases b <;> simp [dK, deq_t, deqs_cc, deqs_nn, deqs_nc, deqs_cn, deq_s]
  | one => intro b; cases b <;> simp [dK, deq_t, deqs_cc, deqs_nn, deqs_nc, deqs_cn, deq_s]
  | to a c ih1 ih2 =>
    intro b
    cases b with
    | both _ _ => simp only [dK, deq_t, deqs_cc, deq_s, sd_tb]; simp
    | _ => simp [dK, deq_t, deqs_cc, deqs_nn, deqs_nc, deqs_cn, deq_s, ih1, ih2]
  | both a c ih1 ih2 =>
    intro b
    cases b with
    | to _ _ => simp only [dK, deq_t, deqs_cc, deq_s, sd_bt]; simp
    | _ => simp [dK, deq_t, deqs_cc, deqs_nn, deqs_nc, deqs_cn, deq_s, ih1, ih2]
theorem rEq_K {neg : Bool} {a b : Kd} {O : Ow} {Q : VD} (ha : a.ok = true) (hb : b.ok = true) (hd : a.depth < 190) : rEqD neg (dK a) (dK b) O Q = Q (.bl (neg ^^ decide (a = b))) O := by
  rw [rEq_d (by rw [deref_dK, isPy_dK, ha]) (by rw [deref_dK, isPy_dK, hb]) (by rw [deref_dK, dp_dK]; omega), deref_dK, deref_dK, deq_K]
/-- == against the empty list -/
theorem deq_nil (xs : List D) : deq (.lst xs) (.lst []) = xs.isEmpty := by
  cases xs <;> simp [deq_l, deqs_nn, deqs_cn]
theorem rEq_nil {neg : Bool} {x : D} {xs : List D} {O : Ow} {Q : VD} (hx : deref O x = .lst xs) (h : isPys xs = true) (hd : dp (.lst xs) ≤ 190) : rEqD neg x (.lst []) O Q = Q (.bl (neg ^^ xs.isEmpty)) O := by
  rw [rEq_d (by rw [hx]; simpa only [isPy] using h) (by simp only [deref, isPy, isPys]) (by rw [hx]; exact hd), hx, deref_lst, deq_nil]
theorem rEq_nilA {neg : Bool} {x : D} {xs : List D} {O : Ow} {Q : VD} (hx : deref O x = .lst xs) (h : isPys xs = true) : rEqD neg x (.lst []) O Q = Q (.bl (neg ^^ xs.isEmpty)) O := by
  rw [rEq_dr (by rw [hx]; simpa only [isPy] using h) (by simp only [deref, isPy, isPys]) (by simp [deref, dp, toPy, toPys, PyData.depth, PyData.depthAll]), hx, deref_lst, deq_nil]
theorem rEq_i2 {neg : Bool} {a b c d : Int} {O : Ow} {Q : VD} : rEqD neg (.lst [.int a, .int b]) (.lst [.int c, .int d]) O Q = Q (.bl (neg ^^ (decide (a = c) && decide (b = d)))) O := by
  rw [rEq_d (by simp [deref, isPy, isPys]) (by simp [deref, isPy, isPys]) (by simp [deref, dpL, dpC, dpN, dpI])]
  simp [deref, deq_l, deqs_cc, deqs_nn, deq_i, deq_b]
theorem rEq_b2 {neg : Bool} {a b c d : Bool} {O : Ow} {Q : VD} : rEqD neg (.lst [.bl a, .bl b]) (.lst [.bl c, .bl d]) O Q = Q (.bl (neg ^^ (decide (a = c) && decide (b = d)))) O := by
  rw [rEq_d (by simp [deref, isPy, isPys]) (by simp [deref, isPy, isPys]) (by simp [deref, dpL, dpC, dpN, dpB])]
  simp [deref, deq_l, deqs_cc, deqs_nn, deq_i, deq_b]

/-! ### the law's pool -/
theorem atI_some {α : Type} {xs : List α} {k : Int} (h0 : 0 ≤ k) (h1 : k < xs.length) : ∃ v, atI xs k = some v ∧ v ∈ xs := by
  have hk : k.toNat < xs.length := by omega
  have e : k = ((k.toNat : Nat) : Int) := by omega
  have q : atI xs ((k.toNat : Nat) : Int) = some xs[k.toNat] := atI_nat (List.getElem?_eq_getElem hk)
  rw [← e] at q
  exact ⟨xs[k.toNat], q, List.getElem_mem hk⟩
theorem poolMod (x : Int) : 0 ≤ x % 2147483647 ∧ x % 2147483647 < 2147483647 := ⟨Int.emod_nonneg _ (by decide), Int.emod_lt_of_pos _ (by decide)⟩
theorem poolNum (c : Int) {k : Int} (h0 : 0 ≤ k) (h1 : k ≤ 1000) : CPow (c % 2147483629 + 104729 * k * k + 11) 3 := by
  have h2 : k * k ≤ 1000 * 1000 := Int.mul_le_mul h1 h1 h0 (by decide)
  have h3 : 0 ≤ k * k := Int.mul_nonneg h0 h0
  have h4 : 0 ≤ c % 2147483629 := Int.emod_nonneg _ (by decide)
  have h5 : c % 2147483629 < 2147483629 := Int.emod_lt_of_pos _ (by decide)
  refine ⟨by decide, by decide, ?_⟩
  rw [Int.mul_assoc]
  omega
def spPool : DSp := fun ds O R _ => ∃ (ns : List Int) (k : Int), ds = [.scr ns, .int k] ∧ 0 ≤ k ∧ k ≤ 1000 ∧ ∀ p, O p = none → R (.ref p) (updO O p .pool)
def spTake : DSp := fun ds O R _ => ∃ (p : Addr) (m : Int), ds = [.ref p, .int m] ∧ O p = some .pool ∧ 0 < m ∧ m < 1329227995784915872903807060280344576 ∧ ∀ r : Int, 0 ≤ r → r < m → R (.int r) O
theorem take_of {p : Addr} {m : Int} {O : Ow} {R : VD} {RE : XD} (hp : O p = some .pool) (h0 : 0 < m) (h1 : m < 1329227995784915872903807060280344576) (h : ∀ r : Int, 0 ≤ r → r < m → R (.int r) O) : spTake [.ref p, .int m] O R RE := ⟨p, m, rfl, hp, h0, h1, h⟩
theorem mem_rangeD {lo : Int} {n : Nat} {d : D} (h : d ∈ rangeD lo n) : ∃ i : Nat, i < n ∧ d = .int (lo + i) := by
  unfold rangeD at h
  obtain ⟨i, h1, rfl⟩ := List.mem_map.mp h
  exact ⟨i, List.mem_range.mp h1, rfl⟩
/-- the law's own loop: how often it goes -/
theorem rngBound (n N : Nat) (hN : N ≤ 1000) (h1 : 1 ≤ N) : (-2 ^ 62 ≤ if (if (N : Int) < n then (N : Int) else n) > 1 then if (N : Int) < n then (N : Int) else n else 1) ∧
    (if (if (N : Int) < n then (N : Int) else n) > 1 then if (N : Int) < n then (N : Int) else n else 1) < 2 ^ 62 ∧
    (if (if (N : Int) < n then (N : Int) else n) > 1 then if (N : Int) < n then (N : Int) else n else 1).toNat ≤ N := by
  refine ⟨?_, ?_, ?_⟩ <;> (repeat' split) <;> omega
end Kf
namespace Kf
open PySem PySem.Spec L2
open PyProof.Rows hiding St
variable {M : MX}

section
variable {X : Cx}
/-! ### more methods -/
def rJoinD : RMD := fun x ds O Q => match x, ds with
  | .str a, [y] => match deref O y with
    | .lst ys => match asStrs ys with
      | some ts => (ts.map (·.length)).sum + ts.length * a.length ≤ 16777216 ∧ Q (.str (Str.join a ts)) O
      | none => False
    | .tup ys => match asStrs ys with
      | some ts => (ts.map (·.length)).sum + ts.length * a.length ≤ 16777216 ∧ Q (.str (Str.join a ts)) O
      | none => False
    | _ => False
  | _, _ => False
theorem md_join : MtD M X "str.join" rJoinD := by
  refine mtD_of fun F P H O x xs dx ds R Q g r1 r2 q po => ?_
  unfold rJoinD at q
  split at q <;> first | exact q.elim | skip
  rename_i a y
  obtain ⟨v, rfl, r2'⟩ := r2.one'
  simp only [Rep] at r1
  subst r1
  have h2 := g.deref r2'
  revert q h2
  generalize Kf.deref O y = ey
  intro q h2
  cases ey <;> first | exact q.elim | skip
  · rename_i ys
    dsimp only at q
    cases e : asStrs ys with
    | none => rw [e] at q; exact q.elim
    | some ts =>
      rw [e] at q
      simp only [RepH, Rep] at h2
      obtain ⟨b, ws, rfl, h3, h4⟩ := h2
      rw [of_asStrs e] at h4
      have e3 := h4.strs
      subst e3
      exact ⟨_, mt_join, a, b, ts, rfl, rfl, .inr (Same.seqT g.fz h3), q.1, po.at g q.2 (by simp only [Rep]; rw [show Txt.join a ts = Str.join a ts from PySem.StrLaws.glued_eq_join a ts])⟩
  · rename_i ys
    dsimp only at q
    cases e : asStrs ys with
    | none => rw [e] at q; exact q.elim
    | some ts =>
      rw [e] at q
      obtain ⟨b, ws, rfl, h3, h4⟩ := h2
      rw [of_asStrs e] at h4
      have e3 := h4.strs
      subst e3
      exact ⟨_, mt_join, a, b, ts, rfl, rfl, .inl (SqL.of h3), q.1, po.at g q.2 (by simp only [Rep]; rw [show Txt.join a ts = Str.join a ts from PySem.StrLaws.glued_eq_join a ts])⟩
def rInsertD : RMD := fun x ds O Q => match x, ds with
  | .ref a, [.int i, y] => match O a with
    | some (.lst xs) => xs.length < sizeLine ∧ 0 ≤ i ∧ i < 2 ^ 63 ∧ Q .non (updO O a (.lst (xs.take i.toNat ++ [y] ++ xs.drop i.toNat)))
    | _ => False
  | _, _ => False
theorem md_insert : MtD M X "list.insert" rInsertD := by
  refine mtD_of fun F P H O x xs dx ds R Q g r1 r2 q po => ?_
  unfold rInsertD at q
  split at q <;> first | exact q.elim | skip
  rename_i a i y
  obtain ⟨v, w, rfl, r2', r3'⟩ := r2.two'
  simp only [Rep] at r1 r2'
  subst r1 r2'
  cases e : O a with
  | none => rw [e] at q; exact q.elim
  | some c =>
    rw [e] at q
    cases c with
    | pool => exact q.elim
    | dic _ => exact q.elim
    | dicL _ _ => exact q.elim
    | exc _ _ => exact q.elim
    | ins _ _ => exact q.elim
    | lst zs =>
      obtain ⟨_, _, vs, h1, h2⟩ := g.ow a _ e
      refine ⟨_, mt_insert, a, vs, i, w, rfl, rfl, h1, by rw [← h2.length]; exact q.1, q.2.1, q.2.2.1, ?_⟩
      exact po .non _ F _ _ q.2.2.2 (Same.refl _) (g.setO e ⟨_, upd_same, ((h2.take _).append (.one r3')).append (h2.drop _)⟩) (by simp only [Rep])
def rPopAtD : RMD := fun x ds O Q => match x, ds with
  | .ref a, [.int i] => match O a with
    | some (.lst xs) => match ixN xs.length i with
      | some k => match xs[k]? with
        | some d => Q d (updO O a (.lst (xs.eraseIdx k)))
        | none => False
      | none => False
    | _ => False
  | _, _ => False
theorem md_popAt : MtD M X "list.pop" rPopAtD := by
  refine mtD_of fun F P H O x xs dx ds R Q g r1 r2 q po => ?_
  unfold rPopAtD at q
  split at q <;> first | exact q.elim | skip
  rename_i a i
  obtain ⟨v, rfl, r2'⟩ := r2.one'
  simp only [Rep] at r1 r2'
  subst r1 r2'
  cases e : O a with
  | none => rw [e] at q; exact q.elim
  | some c =>
    rw [e] at q
    cases c with
    | pool => exact q.elim
    | dic _ => exact q.elim
    | dicL _ _ => exact q.elim
    | exc _ _ => exact q.elim
    | ins _ _ => exact q.elim
    | lst zs =>
      dsimp only at q
      obtain ⟨_, _, vs, h1, h2⟩ := g.ow a _ e
      cases e1 : ixN zs.length i with
      | none => rw [e1] at q; exact q.elim
      | some k =>
        rw [e1] at q
        dsimp only at q
        cases e2 : zs[k]? with
        | none => rw [e2] at q; exact q.elim
        | some d =>
          rw [e2] at q
          obtain ⟨u, e3, r3⟩ := h2.get e2
          obtain ⟨k1, k2, k3, k4⟩ := ixN_seq e1
          have hz : vs.length ≤ sizeLine ∨ True := .inr trivial
          by_cases hb : -(2 ^ 63) ≤ i ∧ i < 2 ^ 63
          · refine ⟨_, mt_popAt, a, vs, i, k, u, rfl, rfl, h1, hb.1, hb.2, by rw [← h2.length]; exact k1, e3, ?_⟩
            exact po d _ F _ _ q (Same.refl _) (g.setO e ⟨_, upd_same, h2.eraseIdx k⟩) r3
          · refine ⟨fun _ _ H _ => ∃ xs : List V, H a = some (.lst xs) ∧ ¬ (-(2 ^ 63) ≤ i ∧ i < 2 ^ 63) ∧ -(xs.length : Int) ≤ i ∧ i < xs.length, ?_, vs, h1, hb, by rw [← h2.length]; exact ⟨k3, k4⟩⟩
            intro pins s σ H x xs v us Q I rx rxs h
            obtain ⟨ys, hH, nb, l1, l2⟩ := h
            obtain ⟨_, _, _, _, hl⟩ := I.lst hH
            have := sizeLine_eq
            omega
def rClearD : RMD := fun x ds O Q => match x, ds with
  | .ref a, [] => match O a with
    | some (.lst _) => Q .non (updO O a (.lst []))
    | _ => False
  | _, _ => False
theorem md_clear : MtD M X "list.clear" rClearD := by
  refine mtD_of fun F P H O x xs dx ds R Q g r1 r2 q po => ?_
  unfold rClearD at q
  split at q <;> first | exact q.elim | skip
  rename_i a
  simp only [RepAll] at r2
  simp only [Rep] at r1
  subst r1 r2
  cases e : O a with
  | none => rw [e] at q; exact q.elim
  | some c =>
    rw [e] at q
    cases c with
    | pool => exact q.elim
    | dic _ => exact q.elim
    | dicL _ _ => exact q.elim
    | exc _ _ => exact q.elim
    | ins _ _ => exact q.elim
    | lst zs =>
      obtain ⟨_, _, vs, h1, h2⟩ := g.ow a _ e
      exact ⟨_, mt_clear, a, vs, rfl, rfl, h1, po .non _ F _ _ q (Same.refl _) (g.setO e ⟨_, upd_same, .nil⟩) (by simp only [Rep])⟩
def rSplitD : RMD := fun x ds O Q => match x, ds with
  | .str a, [.str b] => (b.length == 0) = false ∧ a.length + 2 ≤ sizeLine ∧ Q (.lst ((Txt.split a b).map .str)) O
  | _, _ => False
theorem md_split : MtD M X "str.split" rSplitD := by
  refine mtD_of fun F P H O x xs dx ds R Q g r1 r2 q po => ?_
  unfold rSplitD at q
  split at q <;> first | exact q.elim | skip
  rename_i a b
  obtain ⟨v, rfl, r2'⟩ := r2.one'
  simp only [Rep] at r1 r2'
  subst r1 r2'
  exact ⟨_, mt_split, a, b, rfl, rfl, q.1, q.2.1, fun p hp => po.lst g q.2.2 .of_strs hp⟩
/-- xs.index(y): the first place of an equal one -/
def rIndexD : RMD := fun x ds O Q => match ds with
  | [y] => match deref O x with
    | .lst xs => isPys xs = true ∧ isPy (deref O y) = true ∧ dp (.lst xs) ≤ 64 ∧ dp (deref O y) ≤ 64 ∧ match xs.findIdx? (fun z => deq z (deref O y)) with
      | some j => Q (.int (j : Nat)) O
      | none => False
    | _ => False
  | _ => False
theorem toPys_get {xs : List D} {j : Nat} : (toPys xs)[j]? = xs[j]?.map toPy := by rw [toPys_map, List.getElem?_map]
theorem md_index (hu : X.A.units + 200 < cLine) : MtD M X "list.index" rIndexD := by
  refine mtD_of fun F P H O x xs dx ds R Q g r1 r2 q po => ?_
  unfold rIndexD at q
  split at q <;> first | exact q.elim | skip
  rename_i y
  obtain ⟨v, rfl, r2'⟩ := r2.one'
  have h1 := g.deref r1
  have h2 := g.deref r2'
  revert q h1
  generalize Kf.deref O dx = ex
  intro q h1
  cases ex <;> first | exact q.elim | skip
  rename_i zs
  obtain ⟨q1, q2, q3, q4, q5⟩ := q
  cases e : zs.findIdx? (fun z => deq z (Kf.deref O y)) with
  | none => rw [e] at q5; exact q5.elim
  | some j =>
    rw [e] at q5
    obtain ⟨c, ws, rfl, h3, h4⟩ := h1
    obtain ⟨hj, hp, hn⟩ := List.findIdx?_eq_some_iff_getElem.mp e
    refine ⟨_, mt_indexD (by omega), c, v, _, toPys zs, j, toPy zs[j], rfl, rfl, .lst (SqL.of h3) (RepAll.dp g.fz zs ws q1 h4), h2.dp g.fz q2, ?_, ?_, ?_, hp, fun m z' hm hz => ?_, po.at g q5 (by simp only [Rep])⟩
    · have l1 : (PyData.list (toPys zs)).canLay0 = true := by simp only [PyData.canLay0]; exact isPys_lay zs q1
      have l2 : (PyData.list (toPys zs)).depth ≤ 64 := by have := q3; simpa only [dp, toPy] using this
      simp only [SeqAt.shaped, l1, l2, decide_true, Bool.and_self]
    · have l2 : (toPy (Kf.deref O y)).depth ≤ 64 := q4
      simp only [SeqAt.shaped, isPy_lay _ q2, l2, decide_true, Bool.and_self]
    · rw [toPys_get, List.getElem?_eq_getElem hj]; rfl
    · rw [toPys_get] at hz
      obtain ⟨z, hz1, rfl⟩ := Option.map_eq_some_iff.mp hz
      have hml : m < zs.length := by omega
      rw [List.getElem?_eq_getElem hml] at hz1
      cases hz1
      have := hn m hm
      simpa [deq] using this
end
section
variable {O : Ow} {Q : VD} {i j : Int} {a b : Str} {xs ys : List D} {d e x y z u : D} {p : Addr}
theorem rJoin_l {ts : List Str} (h : asStrs xs = some ts) : rJoinD (.str a) [.lst xs] O Q = ((ts.map (·.length)).sum + ts.length * a.length ≤ 16777216 ∧ Q (.str (Str.join a ts)) O) := by simp only [rJoinD, deref, h]
theorem rJoin_m {ts : List Str} : rJoinD (.str a) [.lst (ts.map .str)] O Q = ((ts.map (·.length)).sum + ts.length * a.length ≤ 16777216 ∧ Q (.str (Str.join a ts)) O) := rJoin_l (asStrs_map ts)
theorem rJoin_r {ts : List Str} (h0 : O p = some (.lst xs)) (h : asStrs xs = some ts) : rJoinD (.str a) [.ref p] O Q = ((ts.map (·.length)).sum + ts.length * a.length ≤ 16777216 ∧ Q (.str (Str.join a ts)) O) := by simp only [rJoinD, deref, h0, h]
theorem rIns_r (h : O p = some (.lst xs)) : rInsertD (.ref p) [.int i, y] O Q = (xs.length < sizeLine ∧ 0 ≤ i ∧ i < 2 ^ 63 ∧ Q .non (updO O p (.lst (xs.take i.toNat ++ [y] ++ xs.drop i.toNat)))) := by simp only [rInsertD, h]
theorem rPop0_r (h : O p = some (.lst (x :: xs))) : rPopAtD (.ref p) [.int 0] O Q = Q x (updO O p (.lst xs)) := by
  have e : ixN (xs.length + 1) 0 = some 0 := by
    unfold ixN
    rw [if_pos (by decide), if_pos (by omega)]; rfl
  simp only [rPopAtD, h, List.length_cons, e, List.getElem?_cons_zero, List.eraseIdx_cons_zero]
theorem rClear_r (h : O p = some (.lst xs)) : rClearD (.ref p) [] O Q = Q .non (updO O p (.lst [])) := by simp only [rClearD, h]
theorem rSplit_s : rSplitD (.str a) [.str b] O Q = ((b.length == 0) = false ∧ a.length + 2 ≤ sizeLine ∧ Q (.lst ((Txt.split a b).map .str)) O) := rfl
theorem rIndex_l {j : Nat} (h1 : isPys xs = true) (h2 : isPy (deref O y) = true) (h3 : dp (.lst xs) ≤ 64) (h4 : dp (deref O y) ≤ 64) (h : xs.findIdx? (fun z => deq z (deref O y)) = some j) : rIndexD (.lst xs) [y] O Q = Q (.int (j : Nat)) O := by
  simp only [rIndexD, deref_lst, h1, h2, h3, h4, h, true_and]
end
/-! ### walks -/
/-- a walk by places -/
theorem forD_ix {p : Pat} {gb : GS} {R : DEnds} (I : Nat → DEnv → Ow → Prop) : ∀ (ds : List D) (k : Nat) (ρ : DEnv) (O : Ow), I k ρ O → (∀ ρ O, I (k + ds.length) ρ O → R.nx ρ O) →
    (∀ i d, ds[i]? = some d → ∀ ρ O, I (k + i) ρ O → ∀ N : DEnv → Ow → Prop, (∀ ρ O, I (k + i + 1) ρ O → N ρ O) → patGet (patD p d ρ) fun ρ1 => gb { R with nx := N, ct := N, bk := R.nx } ρ1 O) → forD p gb R ds ρ O
  | [], k, ρ, O, h, hd, _ => hd ρ O h
  | d :: ds, k, ρ, O, h, hd, hs => by
    have q := hs 0 d rfl ρ O h (forD p gb R ds) fun ρ' O' h' => by
      refine forD_ix I ds (k + 1) ρ' O' h' (fun ρ O z => hd ρ O ?_) fun i d' hi ρ O z N hN => hs (i + 1) d' (by simpa using hi) ρ O ?_ N fun ρ O z => hN ρ O ?_
      · have e : k + (d :: ds).length = k + 1 + ds.length := by rw [List.length_cons]; omega
        rw [e]; exact z
      · have e : k + (i + 1) = k + 1 + i := by omega
        rw [e]; exact z
      · have e : k + 1 + i + 1 = k + (i + 1) + 1 := by omega
        rw [e]; exact z
    unfold forD
    exact q
/-- a comprehension that maps -/
theorem lcD_map {p : Pat} {fe : FE} {ρ : DEnv} {O : Ow} (h : D → D) : ∀ (ds acc : List D) (Q : List D → Ow → Prop), acc.length + ds.length ≤ sizeLine →
    (∀ d ∈ ds, ∀ Q' : VD, Q' (h d) O → patGet (patD p d ρ) fun ρ1 => fe ρ1 O Q') → Q (acc ++ ds.map h) O → lcD p fYes fe ρ ds acc O Q
  | [], acc, Q, _, _, q => by simpa [lcD] using q
  | d :: ds, acc, Q, hl, hs, q => by
    rw [List.length_cons] at hl
    have z := hs d List.mem_cons_self (fun e O2 => acc.length < sizeLine ∧ lcD p fYes fe ρ ds (acc ++ [e]) O2 Q) ⟨by omega, lcD_map h ds _ Q (by rw [List.length_append, List.length_singleton]; omega) (fun d' hd => hs d' (List.mem_cons_of_mem _ hd)) (by simpa using q)⟩
    unfold lcD
    simpa [fYes] using z
/-- a comprehension whose items may be many -/
theorem lcD_all {p : Pat} {fe : FE} {ρ : DEnv} {O : Ow} (A : D → D → Prop) : ∀ (ds acc : List D) (Q : List D → Ow → Prop), acc.length + ds.length ≤ sizeLine →
    (∀ d ∈ ds, ∀ Q' : VD, (∀ e, A d e → Q' e O) → patGet (patD p d ρ) fun ρ1 => fe ρ1 O Q') → (∀ es, Paired A ds es → Q (acc ++ es) O) → lcD p fYes fe ρ ds acc O Q
  | [], acc, Q, _, _, q => by have := q [] .nil; simpa [lcD] using this
  | d :: ds, acc, Q, hl, hs, q => by
    rw [List.length_cons] at hl
    have z := hs d List.mem_cons_self (fun e O2 => acc.length < sizeLine ∧ lcD p fYes fe ρ ds (acc ++ [e]) O2 Q) fun e he => ⟨by omega, lcD_all A ds _ Q (by rw [List.length_append, List.length_singleton]; omega) (fun d' hd => hs d' (List.mem_cons_of_mem _ hd)) fun es hes => by
      have := q (e :: es) (.cons he hes)
      simpa using this⟩
    unfold lcD
    simpa [fYes] using z
/-- a comprehension that maps those that it keeps -/
theorem lcD_filter {p : Pat} {ft : FT} {fe : FE} {ρ : DEnv} {O : Ow} (b : D → Bool) (h : D → D) : ∀ (ds acc : List D) (Q : List D → Ow → Prop), acc.length + ds.length ≤ sizeLine →
    (∀ d ∈ ds, ∀ (Q1 : VD) (Q2 : Ow → Prop), (b d = true → Q1 (h d) O) → (b d = false → Q2 O) → patGet (patD p d ρ) fun ρ1 => ft ρ1 O fun k O1 => if k = true then fe ρ1 O1 Q1 else Q2 O1) → Q (acc ++ (ds.filter b).map h) O → lcD p ft fe ρ ds acc O Q
  | [], acc, Q, _, _, q => by simpa [lcD] using q
  | d :: ds, acc, Q, hl, hs, q => by
    rw [List.length_cons] at hl
    have z := hs d List.mem_cons_self (fun e O2 => acc.length < sizeLine ∧ lcD p ft fe ρ ds (acc ++ [e]) O2 Q) (fun O2 => lcD p ft fe ρ ds acc O2 Q)
      (fun hb => ⟨by omega, lcD_filter b h ds _ Q (by rw [List.length_append, List.length_singleton]; omega) (fun d' hd => hs d' (List.mem_cons_of_mem _ hd)) (by simpa [List.filter_cons, hb] using q)⟩)
      (fun hb => lcD_filter b h ds _ Q (by omega) (fun d' hd => hs d' (List.mem_cons_of_mem _ hd)) (by simpa [List.filter_cons, hb] using q))
    unfold lcD
    exact z
/-! ### what is owned may be forgotten -/
def Sub (O O' : Ow) : Prop := ∀ a c, O a = some c → O' a = some c
theorem Sub.refl (O : Ow) : Sub O O := fun _ _ h => h
theorem Sub.trans {O O1 O2 : Ow} (a : Sub O O1) (b : Sub O1 O2) : Sub O O2 := fun p c h => b p c (a p c h)
theorem sub_upd {O : Ow} {p : Addr} {c : Cell} (h : O p = none) : Sub O (updO O p c) := fun a d e => by
  have ne : a ≠ p := fun q => by rw [q, h] at e; cases e
  rw [updO_ne ne]; exact e
theorem Gd.sub {K : PySem.W.Frag} {F P H : Hp} {O O' : Ow} (g : Gd M K F O' P H) (s : Sub O O') : Gd M K F O P H := ⟨g.fz, fun a c e => g.ow a c (s a c e), g.as, g.rl⟩
/-- at the end what is owned besides is forgotten -/
def VG (R : VD) : VD := fun d O' => ∃ O, Sub O O' ∧ R d O
section
variable {P : Program} {w : World} {K : PySem.W.Frag} {mg : Str → Option Value} {base : Heap}
theorem fn_dG {x qual : Str} {st : Stmt} {f : Addr} {fd : FuncData} {N ps : List Str} {k : Nat} {dsp : DSp} {g : GS} (F : Fun K x qual st f fd) (S : FnScope N ps (defScope st)) (len : ∀ ds O R RE, dsp ds O R RE → ds.length = ps.length)
    (hder : ∀ (cdv : Value) (A : Around) (outer : List Env) (s : Shared) (H : Hp) (E : XK), Room k (A.deeper (envOfC qual (defScope st) s.heap.objs.size f cdv)) →
      DSs MT (cxOf CX0 P w K mg base N qual (defScope st) f cdv A outer s H E).nox (defBody st) g)
    (hread : ∀ ds O R RE, dsp ds O R RE → g { nx := fun _ O' => VG R .non O', rt := VG R } (startD N ds) O) : FnOk P w K mg base CX0 (k + 1) f fd ps (liftSp K dsp) := by
  refine F.ok S (fun vs H Q E h => ?_) fun cdv A outer s H vs Q E hr h => ?_
  · obtain ⟨F, O, P, ds, R, RE, g, r, q, _⟩ := h
    rw [← r.length]; exact len ds O R RE q
  · obtain ⟨F, O, P, ds, R, RE, gd, r, q, po, _⟩ := h
    refine ⟨_, hder cdv A outer s H E hr, F, O, P, startD N ds, { nx := fun _ O' => VG R .non O', rt := VG R }, gd, ?_, hread ds O R RE q, ⟨fun ρ O' F' H' σ q1 s1 g1 _ => ?_, fun d O' F' H' v q1 s1 g1 r1 => ?_, fun _ _ _ _ _ z => z.elim, fun _ _ _ _ _ z => z.elim⟩⟩
    · unfold startD L2.start
      rw [r.length]
      exact envOk_start _ r
    · obtain ⟨O2, s2, q2⟩ := q1
      exact po .non O2 F' H' .non q2 s1 (g1.sub s2) (by simp only [Rep])
    · obtain ⟨O2, s2, q2⟩ := q1
      exact po d O2 F' H' v q2 s1 (g1.sub s2) r1
end
theorem VG.at {R : VD} {d : D} {O : Ow} (h : R d O) : VG R d O := ⟨O, Sub.refl _, h⟩
theorem VG.up {R : VD} {d : D} {O : Ow} {p : Addr} {c : Cell} (h : O p = none) (q : R d O) : VG R d (updO O p c) := ⟨O, sub_upd h, q⟩
theorem rangeD_get {lo : Int} {n i : Nat} {d : D} (h : (rangeD lo n)[i]? = some d) : i < n ∧ d = .int (lo + (i : Nat)) := by
  unfold rangeD at h
  rw [List.getElem?_map] at h
  obtain ⟨j, e1, rfl⟩ := Option.map_eq_some_iff.mp h
  have hi : i < n := by
    obtain ⟨h, _⟩ := List.getElem?_eq_some_iff.mp e1
    simpa using h
  rw [List.getElem?_range hi] at e1
  cases e1
  exact ⟨hi, rfl⟩
theorem rangeD_length (lo : Int) (n : Nat) : (rangeD lo n).length = n := by unfold rangeD; rw [List.length_map, List.length_range]
theorem cut_all {α : Type} {xs : List α} {n : Nat} (h : xs.length ≤ n) : cut xs none (some (n : Int)) = xs := by
  unfold cut
  rw [HT.sIx_none, HT.sIx_nat, List.drop_zero, Nat.sub_zero, Nat.min_eq_right h, List.take_length]
theorem rSl_l {xs : List D} {lo hi : Option Int} {O : Ow} {Q : VD} : rSlD (.lst xs) lo hi O Q = Q (.lst (cut xs lo hi)) O := rfl
theorem rSl_r {xs : List D} {lo hi : Option Int} {O : Ow} {Q : VD} {p : Addr} (h : O p = some (.lst xs)) : rSlD (.ref p) lo hi O Q = Q (.lst (cut xs lo hi)) O := by simp only [rSlD, deref, h]
theorem rSl_t {xs : List D} {lo hi : Option Int} {O : Ow} {Q : VD} (h : ¬ (HT.sIx xs.length 0 lo = 0 ∧ HT.sIx xs.length xs.length hi = xs.length)) : rSlD (.tup xs) lo hi O Q = Q (.tup (cut xs lo hi)) O := by simp only [rSlD, deref, h, not_false_eq_true, true_and]
theorem rSl_s {a : Str} {lo hi : Option Int} {O : Ow} {Q : VD} : rSlD (.str a) lo hi O Q = (a.length ≤ sizeLine ∧ Q (.str (cutS a lo hi)) O) := rfl
end Kf
namespace Kf
open PySem PySem.Spec L2
open PyProof.Rows hiding St
variable {M : MX}
/-! ### t < u of pairs (a number, a truth) -/
def ltIB (a : Int) (p : Bool) (b : Int) (q : Bool) : Bool := if a = b then (!p && q) else decide (a < b)
section
variable {X : Cx}
theorem op_ltIB (hu : X.A.units < cLine) : OpR X (compareOp .Lt) (fun x y H Q => ∃ (l m : Addr) (a b : Int) (p q : Bool), x = .ref l ∧ y = .ref m ∧ SqT X.K H l [.int a, .bl p] ∧ SqT X.K H m [.int b, .bl q] ∧ Q (.bl (ltIB a p b q)) H) := by
  intro pins s σ H x y v u Q I rx ry h
  obtain ⟨l, m, a, b, p, q, rfl, rfl, ha, hb, q0⟩ := h
  cases rx
  cases ry
  obtain ⟨its, r1, p1, _⟩ := I.tuple ha
  obtain ⟨its2, r2, p2, _⟩ := I.tuple hb
  cases r1 with
  | cons x1 t1 =>
    cases t1 with
    | cons x2 t2 =>
      cases t2
      cases r2 with
      | cons y1 u1 =>
        cases u1 with
        | cons y2 u2 =>
          cases u2
          rename_i v1 v2 w1 w2
          obtain ⟨k1, rfl⟩ := x1
          cases x2
          obtain ⟨k2, rfl⟩ := y1
          cases y2
          have R := Ob.RcOp.tuples_lt (A := X.A) (s := s) (e := fun j => if j = 0 then a == b else p == q) (r := fun j => if j = 0 then decide (a < b) else decide (b2i p < b2i q)) p1 p2 hu (fun j h1 h2 => by
            match j, h1, h2 with
            | 0, _, _ => exact SeqAt.EqAt.int_int _ _ _ _
            | 1, _, _ => exact eqAt_V (y := .bl p) (x := .bl q) rfl rfl rfl rfl
            | k + 2, h1, _ => have h3 : k + 2 < 2 := h1; omega) (fun j h1 h2 _ => by
            match j, h1, h2 with
            | 0, _, _ => exact Ob.RcOp.lt_int _ _ _ _
            | 1, _, _ => exact fun _ _ _ _ h => PyProof.Rows.lt_bool h
            | k + 2, h1, _ => have h3 : k + 2 < 2 := h1; omega)
          have e : Ob.lexAt (fun j => if j = 0 then a == b else p == q) (fun j => if j = 0 then decide (a < b) else decide (b2i p < b2i q)) (decide (#[Value.int a k1, Value.bool p].size < #[Value.int b k2, Value.bool q].size)) 0 (min #[Value.int a k1, Value.bool p].size #[Value.int b k2, Value.bool q].size) = ltIB a p b q := by
            have e2 : min #[Value.int a k1, Value.bool p].size #[Value.int b k2, Value.bool q].size = 2 := rfl
            rw [e2]
            simp only [Ob.lexAt_succ, Ob.lexAt_zero, if_true, ltIB]
            by_cases h : a = b
            · subst h; cases p <;> cases q <;> simp [b2i]
            · simp [h]
          have z : wpAny (model X.prog X.w) X.A (compareOp .Lt (.ref l) (.ref m)) (EP X pins σ Q) X.xe s := R X.prog X.w X.xe (EP X pins σ Q) ⟨.bl _, H, I, rfl, by
            have := q0
            rw [← e] at this
            exact this⟩
          exact z
def rLtTD : R2D := fun x y O Q => match x, y with
  | .tup [.int a, .bl p], .tup [.int b, .bl q] => Q (.bl (ltIB a p b q)) O
  | _, _ => False
theorem od_ltT (hu : X.A.units + 200 < cLine) : OpD M X (compareOp .Lt) rLtTD := by
  refine opD_of fun pins s σ F P H O x y dx dy v u R Q I rx ry gd r1 r2 q po => ?_
  unfold rLtTD at q
  split at q
  · rename_i a p b q'
    simp only [Rep, RepAll] at r1 r2
    obtain ⟨l, vs, rfl, hl, rv⟩ := r1
    obtain ⟨m, ws, rfl, hm, rw_⟩ := r2
    obtain ⟨_, _, rfl, rfl, _, _, rfl, rfl, rfl⟩ := rv
    obtain ⟨_, _, rfl, rfl, _, _, rfl, rfl, rfl⟩ := rw_
    exact ⟨_, op_ltIB (by omega), l, m, a, b, p, q', rfl, rfl, Same.seqT gd.fz hl, Same.seqT gd.fz hm, po.at gd q (by simp only [Rep])⟩
  · exact q.elim
end
theorem rLtT_i {a b : Int} {p q : Bool} {O : Ow} {Q : VD} : rLtTD (.tup [.int a, .bl p]) (.tup [.int b, .bl q]) O Q = Q (.bl (ltIB a p b q)) O := rfl
end Kf
namespace Kf
open PySem PySem.Spec L2
open PyProof.Rows hiding St
variable {M : MX}

/-! ### exceptions: what is wished of one, over data -/
abbrev XW := Value → Option (List (Str × D)) → DEnv → Ow → Prop
def PostW (K : PySem.W.Frag) (F P : Hp) (RX : XW) (W : WX) : Prop := ∀ cls fs ρ O' F' H' dd σ, RX cls fs ρ O' → Same F F' → Gd MT K F' O' P H' → XdOk K F' H' fs dd → EnvOk K F' ρ σ → W cls dd σ H'
def mxw (K : PySem.W.Frag) (RX : XW) (W : WX) : MX where
  rel F P := ∃ P0, Same P0 P ∧ PostW K F P0 RX W
  mono := fun ⟨P0, s0, po⟩ s s' => ⟨P0, s0.trans s', fun cls fs ρ O' F' H' dd σ q s2 => po cls fs ρ O' F' H' dd σ q (s.trans s2)⟩
theorem Gd.wish {K : PySem.W.Frag} {F P H : Hp} {O : Ow} {RX : XW} {W : WX} {cls : Value} {fs : Option (List (Str × D))} {ρ : DEnv} {dd : Option Addr} {σ : L2.St}
    (g : Gd (mxw K RX W) K F O P H) (q : RX cls fs ρ O) (x : XdOk K F H fs dd) (en : EnvOk K F ρ σ) : W cls dd σ H := by
  obtain ⟨P0, s0, po⟩ := g.rl
  exact po cls fs ρ O F H dd σ q (Same.refl _) (g.mt.less s0) x en
/-- of nothing -/
abbrev RX0 : XW := fun _ _ _ _ => False

/-- an own class of exceptions without an __init__ of its own -/
structure ExN (K : PySem.W.Frag) (mg : Str → Option Value) (x : Str) (C : Addr) : Prop where
  g : mg x = some (.ref C)
  ex : PySem.W.excIn K C [.type "ValueError", .type "Exception", .type "BaseException", .type "object"] "ValueError.__new__" = true
  kp : PySem.W.keepIn K (.ref C) = true
  sb : PySem.W.subIn K (.ref C) (.type "BaseException") = some true
  ty : PySem.W.typeIn K (.ref C) = some (.type "type")

section
variable {X : Cx} {RX : XW} {W : WX} {x m : Str} {C : Addr} {j : Nat} {p p2 pos pos' : Pos}
def gRaise (RX : XW) (cls : Value) : GS := fun _ ρ O => RX cls none ρ O
theorem ds_raise (N : ExN X.K X.mg x C) (hc : X.calm = true) (tk : Takes X W) (hg : Gl X x) (hdb : (x == ("__debug__" : Str)) = false := by decide) :
    DS (mxw X.K RX W) X (.Raise (some (.Call (.Name x p) [.Constant (.str m) j p2] [] pos)) none pos') (gRaise RX (.ref C)) :=
  psMono (ps_raise hc tk (pmk_own PySem.F.excBase_ValueError N.ex N.g N.kp (raises_own N.sb N.ty) hg hdb)) fun D σ H h => by
    obtain ⟨F, O, P, ρ, R, g, en, q, po⟩ := h
    exact g.wish q rfl en
end
section
variable {X : Cx} {RX : XW} {W : WX} {e : Expr} {es : List Expr} {fr : FA} {k : Nat} {f : Addr} {fd : FuncData} {ps : List Str} {dsp : DSp} {x : Str} {st : Stmt} {p pos : Pos}
/-- a call that may raise -/
def fCallX (dsp : DSp) (RX : XW) (fr : FA) : FE := fun ρ O Q => fr ρ O fun ds O1 => dsp ds O1 Q fun cls fs O' => RX cls fs ρ O'
theorem de_callX (N : Fn X.K X.mg x st ps f fd) (G : FnOk X.prog X.w X.K X.mg X.base (L2.CX X.prog X.w) k f fd ps (liftSp X.K dsp)) (hr : Room k X.A) (tk : Takes X W) (hg : Gl X x)
    (ha : DA (mxw X.K RX W) X (e :: es) fr) (hdb : (x == ("__debug__" : Str)) = false := by decide) (he : starEach (e :: es) X.env = (false, eval e X.env) :: starEach es X.env := by rfl) (hpl : (backTo pos (starEach es X.env)).any (·.1) = false := by rfl) :
    DE (mxw X.K RX W) X (.Call (.Name x p) (e :: es) [] pos) (fCallX dsp RX fr) := peMono (pe_callS G hr hg N.m N.F.kp N.b (fun σ => passAt tk σ) ha hdb he hpl) fun σ H Q h => by
  obtain ⟨F, O, P, ρ, R, g, en, q, po⟩ := h
  refine ⟨F, O, P, ρ, _, g, en, q, fun ds O1 F1 H1 vs q1 s1 g1 r1 => ?_⟩
  refine ⟨F1, O1, P, ds, R, _, g1.mt, r1, q1, po.mt g1 s1, fun cls fs O' F' H' dd q2 s2 g2 xd => ?_⟩
  exact (g2.re ((mxw X.K RX W).mono g1.rl s2 (Same.refl _))).wish q2 xd (en.mono (s1.trans s2))
end
section
variable {P : Program} {w : World} {K : PySem.W.Frag} {mg : Str → Option Value} {base : Heap}
/-- at the end what is owned besides is forgotten -/
def XG (RE : XD) : XW := fun cls fs _ O' => ∃ O, Sub O O' ∧ RE cls fs O
/-- a def that may raise, by its reading -/
theorem fn_dX {x qual : Str} {st : Stmt} {f : Addr} {fd : FuncData} {N ps : List Str} {k : Nat} {dsp : DSp} {g : XW → GS} (F : Fun K x qual st f fd) (S : FnScope N ps (defScope st)) (len : ∀ ds O R RE, dsp ds O R RE → ds.length = ps.length)
    (hder : ∀ (RX : XW) (W : WX) (cdv : Value) (A : Around) (outer : List Env) (s : Shared) (H : Hp) (E : XK), Takes (cxOf (L2.CX P w) P w K mg base N qual (defScope st) f cdv A outer s H E) W →
      PassesOwn (model (cxOf (L2.CX P w) P w K mg base N qual (defScope st) f cdv A outer s H E).prog (cxOf (L2.CX P w) P w K mg base N qual (defScope st) f cdv A outer s H E).w) (cxOf (L2.CX P w) P w K mg base N qual (defScope st) f cdv A outer s H E).A (cxOf (L2.CX P w) P w K mg base N qual (defScope st) f cdv A outer s H E).env (cxOf (L2.CX P w) P w K mg base N qual (defScope st) f cdv A outer s H E).xe →
      Room k (A.deeper (envOfC qual (defScope st) s.heap.objs.size f cdv)) →
      DSs (mxw K RX W) (cxOf (L2.CX P w) P w K mg base N qual (defScope st) f cdv A outer s H E) (defBody st) (g RX))
    (hread : ∀ ds O R RE, dsp ds O R RE → g (XG RE) { nx := fun _ O' => VG R .non O', rt := VG R } (startD N ds) O) : FnOk P w K mg base (L2.CX P w) (k + 1) f fd ps (liftSp K dsp) := by
  refine F.okX S (fun vs H Q E h => ?_) fun cdv A outer s H vs Q E hr h => ?_
  · obtain ⟨F, O, P, ds, R, RE, g, r, q, _⟩ := h
    rw [← r.length]; exact len ds O R RE q
  · obtain ⟨F, O, P', ds, R, RE, gd, r, q, po, px⟩ := h
    have tk : Takes (cxOf (L2.CX P w) P w K mg base N qual (defScope st) f cdv A outer s H E) (fun cls d _ H => E cls d H) := takes_of rfl rfl rfl rfl
    refine ⟨_, hder (XG RE) _ cdv A outer s H E tk (passes_of rfl) hr, F, O, P', startD N ds, { nx := fun _ O' => VG R .non O', rt := VG R }, gd.re ⟨P', Same.refl _, fun cls fs ρ O' F' H' dd σ q1 s1 g1 xd _ => ?_⟩, ?_, hread ds O R RE q, ⟨fun ρ O' F' H' σ q1 s1 g1 _ => ?_, fun d O' F' H' v q1 s1 g1 r1 => ?_, fun _ _ _ _ _ z => z.elim, fun _ _ _ _ _ z => z.elim⟩⟩
    · obtain ⟨O2, s2, q2⟩ := q1
      exact px cls fs O2 F' H' dd q2 s1 (g1.sub s2) xd
    · unfold startD L2.start
      rw [r.length]
      exact envOk_start _ r
    · obtain ⟨O2, s2, q2⟩ := q1
      exact po .non O2 F' H' .non q2 s1 (g1.mt.sub s2) (by simp only [Rep])
    · obtain ⟨O2, s2, q2⟩ := q1
      exact po d O2 F' H' v q2 s1 (g1.mt.sub s2) r1
end

/-! ### try -/
def mxe (K : PySem.W.Frag) (fs : Option (List (Str × D))) (d : Option Addr) : MX where
  rel F _ := XdR K F fs d
  mono := fun h s _ => h.mono s
/-- the fields are held still -/
theorem Gd.holdX {K : PySem.W.Frag} {F P H : Hp} {O : Ow} {fs : Option (List (Str × D))} {dd : Option Addr} (g : Gd MT K F O P H) (x : XdOk K F H fs dd) : ∃ F', Same F F' ∧ Gd (mxe K fs dd) K F' O P H := ⟨F, Same.refl _, g.re x⟩
end Kf
namespace Kf
open PySem PySem.Spec L2
open PyProof.Rows hiding St
variable {M : MX}

def liftSW (K : PySem.W.Frag) (W : WX) (g : XW → GS) : TS := fun D σ H => ∃ RX, liftS (mxw K RX W) K (g RX) D σ H
def liftSE (K : PySem.W.Frag) (g : Option (List (Str × D)) → GS) (d : Option Addr) : TS := fun D σ H => ∃ fs, liftS (mxe K fs d) K (g fs) D σ H
theorem PostS.re {M' : MX} {K : PySem.W.Frag} {F P H : Hp} {O : Ow} {R : DEnds} {D : Ends} (po : PostS M K F P R D) (g : Gd M K F O P H) : PostS M' K F P R D :=
  ⟨fun ρ O' F' H' σ q s g' en => po.nx ρ O' F' H' σ q s (g'.re (M.mono g.rl s (Same.refl _))) en, fun d O' F' H' v q s g' r => po.rt d O' F' H' v q s (g'.re (M.mono g.rl s (Same.refl _))) r,
    fun ρ O' F' H' σ q s g' en => po.bk ρ O' F' H' σ q s (g'.re (M.mono g.rl s (Same.refl _))) en, fun ρ O' F' H' σ q s g' en => po.ct ρ O' F' H' σ q s (g'.re (M.mono g.rl s (Same.refl _))) en⟩
/-- what is wished outside -/
def Outs (M : MX) (K : PySem.W.Frag) (RXo : XW) (Wo : WX) : Prop := ∀ F O P H cls fs ρ dd σ, Gd M K F O P H → RXo cls fs ρ O → XdOk K F H fs dd → EnvOk K F ρ σ → Wo cls dd σ H
theorem outs0 {K : PySem.W.Frag} : Outs M K RX0 (fun _ _ _ _ => False) := fun _ _ _ _ _ _ _ _ _ _ z _ _ => z
theorem outsX {K : PySem.W.Frag} {RX : XW} {W : WX} : Outs (mxw K RX W) K RX W := fun _ _ _ _ _ _ _ _ _ g q x en => g.wish q x en
section
variable {X : Cx} {x n : Str} {c : Value} {i : Nat} {body suite : List Stmt} {b₀ : Stmt} {np pos pos' : Pos} {gb : XW → GS} {gs : Addr → Value → Option (List (Str × D)) → GS} {RXo : XW} {Wo : WX}
theorem pss_sw {W : WX} (h : ∀ RX, DSs (mxw X.K RX W) X body (gb RX)) : PSs X body (liftSW X.K W gb) := ⟨fun pins s σ H D I ⟨RX, q⟩ => (h RX).run pins s σ H D I q⟩
theorem pss_se {d : Option Addr} {g : Option (List (Str × D)) → GS} (h : ∀ fs, DSs (mxe X.K fs d) X body (g fs)) : PSs X body (liftSE X.K g d) := ⟨fun pins s σ H D I ⟨fs, q⟩ => (h fs).run pins s σ H D I q⟩
/-- the ends with slot i empty -/
def endsNo (i : Nat) (R : DEnds) : DEnds := { nx := fun ρ O => R.nx (ρ.set i none) O, rt := R.rt, bk := fun ρ O => R.bk (ρ.set i none) O, ct := fun ρ O => R.ct (ρ.set i none) O }
def xAs (K : PySem.W.Frag) (c : Value) (i : Nat) (gs : Addr → Value → Option (List (Str × D)) → GS) (RXo : XW) (R : DEnds) : XW := fun cls fs ρ O => ∃ b, PySem.W.exmOne K cls c = some b ∧
  (b = true → ∀ a, O a = none → gs a cls fs (endsNo i R) (ρ.set i (some (.ref a))) O) ∧ (b = false → RXo cls fs ρ O)
def xOnly (K : PySem.W.Frag) (c : Value) (gs : Addr → Value → Option (List (Str × D)) → GS) (RXo : XW) (R : DEnds) : XW := fun cls fs ρ O => ∃ b, PySem.W.exmOne K cls c = some b ∧
  (b = true → ∀ a, O a = none → gs a cls fs R ρ O) ∧ (b = false → RXo cls fs ρ O)
/-- try: .. except C as n: .. -/
def gTryAs (K : PySem.W.Frag) (c : Value) (i : Nat) (gb : XW → GS) (gs : Addr → Value → Option (List (Str × D)) → GS) (RXo : XW) : GS := fun R ρ O => gb (xAs K c i gs RXo R) R ρ O
/-- try: .. except C: .. -/
def gTry (K : PySem.W.Frag) (c : Value) (gb : XW → GS) (gs : Addr → Value → Option (List (Str × D)) → GS) (RXo : XW) : GS := fun R ρ O => gb (xOnly K c gs RXo R) R ρ O
theorem ds_try_as (hN : X.N.Nodup) (hi : X.N[i]? = some n) (hln : X.env.kindOf n = some .local) (hc : Names X x c) (tk : Takes X Wo) (ho : Outs M X.K RXo Wo)
    (hb : ∀ (RX : XW) (W : WX) (pn : List (Addr × Obj)) (xe : Value → Shared → Prop), Takes (X.tr pn xe) W → PassesOwn (model X.prog X.w) X.A X.env xe → DSs (mxw X.K RX W) (X.tr pn xe) body (gb RX))
    (hsu : ∀ (fs : Option (List (Str × D))) (a : Addr) (oe : Obj) (cls : Value) (d : Option Addr) (pn : List (Addr × Obj)), Zc cls d oe → (∃ vs, oe.data = .fields vs) → DSs (mxe X.K fs d) (X.suite a ((a, oe) :: pn)) (b₀ :: suite) (gs a cls fs))
    (hs : X.stack = X.env :: X.outer := by rfl) (hf : X.env.frame = some X.env.locals := by rfl) :
    DS M X (.Try body [.ExceptHandler (some (.Name x np)) (some n) (b₀ :: suite) pos'] [] [] pos) (gTryAs X.K c i gb gs RXo) :=
  psMono (ps_try_as (tb := fun W => liftSW X.K W gb) (ts := fun a cls d => liftSE X.K (gs a cls) d) hs hf hN hi hln hc tk (fun W pn xe tk' ps => pss_sw (X := X.tr pn xe) fun RX => hb RX W pn xe tk' ps)
    (fun a oe cls d pn hz hf' => pss_se (X := X.suite a ((a, oe) :: pn)) fun fs => hsu fs a oe cls d pn hz hf')) fun D σ H h => by
  obtain ⟨F, O, P, ρ, R, g, en, q, po⟩ := h
  refine ⟨_, F, O, P, ρ, R, g.re ⟨P, Same.refl _, fun cls fs ρ' O' F' H' dd σ' q1 s1 g1 xd en1 => ?_⟩, en, q, po.re g⟩
  obtain ⟨b, hb1, hb2, hb3⟩ := q1
  refine ⟨b, hb1, fun hbt a ha => ?_, fun hbf => ho F' O' P H' cls fs ρ' dd σ' (g1.re (M.mono g.rl s1 (Same.refl _))) (hb3 hbf) xd en1⟩
  have z := hb2 hbt a (g1.freeO ha)
  obtain ⟨F2, s2, g2⟩ := g1.holdX xd
  refine ⟨fs, F2, O', P, ρ'.set i (some (.ref a)), _, g2, (en1.mono s2).set (by simp only [Rep]) i, z, ⟨fun ρ3 O3 F3 H3 σ3 q3 s3 g3 en3 => ?_, fun d3 O3 F3 H3 v3 q3 s3 g3 r3 => ?_, fun ρ3 O3 F3 H3 σ3 q3 s3 g3 en3 => ?_, fun ρ3 O3 F3 H3 σ3 q3 s3 g3 en3 => ?_⟩⟩
  · exact po.nx _ O3 F3 H3 _ q3 (s1.trans (s2.trans s3)) (g3.re (M.mono g.rl (s1.trans (s2.trans s3)) (Same.refl _))) (en3.wipe i)
  · exact po.rt _ O3 F3 H3 _ q3 (s1.trans (s2.trans s3)) (g3.re (M.mono g.rl (s1.trans (s2.trans s3)) (Same.refl _))) r3
  · exact po.bk _ O3 F3 H3 _ q3 (s1.trans (s2.trans s3)) (g3.re (M.mono g.rl (s1.trans (s2.trans s3)) (Same.refl _))) (en3.wipe i)
  · exact po.ct _ O3 F3 H3 _ q3 (s1.trans (s2.trans s3)) (g3.re (M.mono g.rl (s1.trans (s2.trans s3)) (Same.refl _))) (en3.wipe i)
theorem ds_try (hc : Names X x c) (tk : Takes X Wo) (ho : Outs M X.K RXo Wo)
    (hb : ∀ (RX : XW) (W : WX) (pn : List (Addr × Obj)) (xe : Value → Shared → Prop), Takes (X.tr pn xe) W → PassesOwn (model X.prog X.w) X.A X.env xe → DSs (mxw X.K RX W) (X.tr pn xe) body (gb RX))
    (hsu : ∀ (fs : Option (List (Str × D))) (a : Addr) (oe : Obj) (cls : Value) (d : Option Addr) (pn : List (Addr × Obj)), Zc cls d oe → (∃ vs, oe.data = .fields vs) → DSs (mxe X.K fs d) (X.suite a ((a, oe) :: pn)) (b₀ :: suite) (gs a cls fs))
    (hs : X.stack = X.env :: X.outer := by rfl) (hf : X.env.frame = some X.env.locals := by rfl) :
    DS M X (.Try body [.ExceptHandler (some (.Name x np)) none (b₀ :: suite) pos'] [] [] pos) (gTry X.K c gb gs RXo) :=
  psMono (ps_try_only (tb := fun W => liftSW X.K W gb) (ts := fun a cls d => liftSE X.K (gs a cls) d) hs hf hc tk (fun W pn xe tk' ps => pss_sw (X := X.tr pn xe) fun RX => hb RX W pn xe tk' ps)
    (fun a oe cls d pn hz hf' => pss_se (X := X.suite a ((a, oe) :: pn)) fun fs => hsu fs a oe cls d pn hz hf')) fun D σ H h => by
  obtain ⟨F, O, P, ρ, R, g, en, q, po⟩ := h
  refine ⟨_, F, O, P, ρ, R, g.re ⟨P, Same.refl _, fun cls fs ρ' O' F' H' dd σ' q1 s1 g1 xd en1 => ?_⟩, en, q, po.re g⟩
  obtain ⟨b, hb1, hb2, hb3⟩ := q1
  refine ⟨b, hb1, fun hbt a ha => ?_, fun hbf => ho F' O' P H' cls fs ρ' dd σ' (g1.re (M.mono g.rl s1 (Same.refl _))) (hb3 hbf) xd en1⟩
  have z := hb2 hbt a (g1.freeO ha)
  obtain ⟨F2, s2, g2⟩ := g1.holdX xd
  refine ⟨fs, F2, O', P, ρ', R, g2, en1.mono s2, z, ⟨fun ρ3 O3 F3 H3 σ3 q3 s3 g3 en3 => ?_, fun d3 O3 F3 H3 v3 q3 s3 g3 r3 => ?_, fun ρ3 O3 F3 H3 σ3 q3 s3 g3 en3 => ?_, fun ρ3 O3 F3 H3 σ3 q3 s3 g3 en3 => ?_⟩⟩
  · exact po.nx _ O3 F3 H3 _ q3 (s1.trans (s2.trans s3)) (g3.re (M.mono g.rl (s1.trans (s2.trans s3)) (Same.refl _))) en3
  · exact po.rt _ O3 F3 H3 _ q3 (s1.trans (s2.trans s3)) (g3.re (M.mono g.rl (s1.trans (s2.trans s3)) (Same.refl _))) r3
  · exact po.bk _ O3 F3 H3 _ q3 (s1.trans (s2.trans s3)) (g3.re (M.mono g.rl (s1.trans (s2.trans s3)) (Same.refl _))) en3
  · exact po.ct _ O3 F3 H3 _ q3 (s1.trans (s2.trans s3)) (g3.re (M.mono g.rl (s1.trans (s2.trans s3)) (Same.refl _))) en3
end
/-! ### isinstance of the exception that a suite holds -/
def clsD : D → Value → Prop
  | .ref C, v => v = .ref C
  | .ty n, v => v = .type n
  | _, _ => False
theorem clsD.uniq {K : PySem.W.Frag} {F : Hp} {d : D} {cv u : Value} {v : V} (h : clsD d cv) (r : Rep K F d v) (rv : RelV v u) : u = cv := by
  unfold clsD at h
  split at h
  · simp only [Rep] at r; subst r; subst h; exact rv
  · simp only [Rep] at r; subst r; subst h; exact rv
  · exact h.elim
theorem clsDs {K : PySem.W.Frag} {F : Hp} : ∀ {ds : List D} {cs us : List Value} {vs : List V}, Paired clsD ds cs → RepAll K F ds vs → Vals vs us → us = cs
  | [], _, us, vs, .nil, r, rv => by simp only [RepAll] at r; subst r; cases rv; rfl
  | d :: ds, _, us, vs, .cons h t, r, rv => by
    simp only [RepAll] at r
    obtain ⟨v, w, rfl, r1, r2⟩ := r
    cases rv with
    | cons a b => rw [h.uniq r1 a, clsDs t r2 b]
def rIsED (K : PySem.W.Frag) (a : Addr) (cls : Value) (fs : Option (List (Str × D))) : RAD := fun ds O Q => match ds with
  | [.ref b, .tup cs] => b = a ∧ fs = none ∧ ∃ C us bb, cls = .ref C ∧ ExcC K C ∧ Paired clsD cs us ∧ PySem.W.kitAny K (.ref C) us = some bb ∧ Q (.bl bb) O
  | [.ref b, c] => b = a ∧ fs = none ∧ ∃ C cv bb, cls = .ref C ∧ ExcC K C ∧ clsD c cv ∧ PySem.W.kitOne K (.ref C) cv = some bb ∧ Q (.bl bb) O
  | _ => False
theorem cd_isE {X : Cx} {a : Addr} {oe : Obj} {cls : Value} {d : Option Addr} {fs : Option (List (Str × D))} {pn : List (Addr × Obj)} (hz : Zc cls d oe) (hf : ∃ vs, oe.data = .fields vs) :
    CallD (mxe X.K fs d) (X.suite a ((a, oe) :: pn)) (.builtin "isinstance") (rIsED X.K a cls fs) := by
  intro pins s σ H xs us Q I r h
  obtain ⟨F, O, P, ds, R, g, rr, q, po⟩ := h
  unfold rIsED at q
  split at q
  · rename_i b cs
    obtain ⟨rfl, rfl, C, us', bb, rfl, hC, hp, e, q⟩ := q
    have hd : d = none := g.rl
    subst hd
    obtain ⟨v, w, rfl, r1, r2⟩ := rr.two'
    simp only [Rep] at r1 r2
    subst r1
    obtain ⟨tp, vs, rfl, ht, rs⟩ := r2
    obtain ⟨its, rv, hit, _⟩ := I.tuple (Same.seqT g.fz ht)
    have eu := clsDs hp rs rv
    subst eu
    cases r with
    | cons ra rb =>
      cases rb with
      | cons rb rc =>
        cases rc
        cases ra
        cases rb
        obtain ⟨hget, _⟩ := I.pin (b, oe) (List.mem_append.mpr (.inl List.mem_cons_self))
        obtain ⟨vs, hv⟩ := hf
        have J : PySem.W.InstAt s.heap b oe C none := by
          obtain ⟨oc, od, oda, osl⟩ := oe
          obtain ⟨h1, h2⟩ := hz
          dsimp only at h1 h2 hv
          subst h1 h2 hv
          exact ⟨hget, rfl, rfl, trivial⟩
        obtain ⟨dd, n, sl, hit⟩ : ∃ dd n sl, s.heap.get? tp = some ⟨.type "tuple", dd, .seq its.toArray n, sl⟩ := by
          obtain ⟨⟨oc, od, oda, osl⟩, h1, h2, n, h3⟩ := hit
          dsimp only at h2 h3
          subst h2 h3
          exact ⟨od, n, osl, h1⟩
        exact PySem.W.kia_tup (PySem.W.handS_kitx_exc hC.hg hC.hk hC.hs hC.hd hC.ha hC.hn hC.ht hC.hm) I.kIn J hit e (fun z => nomatch z) fun tk => ⟨.bl bb, H, I.kept (t' := tk) fun _ _ z => z, rfl, po.at g q (by simp only [Rep])⟩
  · rename_i b c _
    obtain ⟨rfl, rfl, C, cv, bb, rfl, hC, hcv, e, q⟩ := q
    have hd : d = none := g.rl
    subst hd
    obtain ⟨v, w, rfl, r1, r2⟩ := rr.two'
    simp only [Rep] at r1
    subst r1
    exact call_isE hC hz hf pins s σ H _ us Q I r ⟨w, cv, bb, rfl, fun u ru => hcv.uniq r2 ru, e, po.at g q (by simp only [Rep])⟩
  · exact q.elim
end Kf
namespace Kf
open PySem PySem.Spec L2
open PyProof.Rows hiding St
/-- an own class of exceptions, as it is named -/
structure Cl (K : PySem.W.Frag) (mg : Str → Option Value) (x : Str) (C : Addr) : Prop where
  g : mg x = some (.ref C)
  sb : PySem.W.subIn K (.ref C) (.type "BaseException") = some true
  hd : PySem.W.hasDictIn K C = true
  ty : PySem.W.typeIn K (.ref C) = some (.type "type")
  sf : PySem.W.subIn K (.ref C) (.ref C) = some true
section
variable {K : PySem.W.Frag} {mg : Str → Option Value} {x : Str} {C D : Addr} {cls : Value} {b : Bool}
theorem cst_cls (c : Cl K mg x C) : Cst K mg x (.ref C) := ⟨_, .ref C, c.g, rfl, fun _ => by simp only [Rep]⟩
theorem Cl.exm (c : Cl K mg x C) (h : PySem.W.subIn K cls (.ref C) = some b) : PySem.W.exmOne K cls (.ref C) = some b := PySem.W.exm_ref c.sb c.hd c.ty h
theorem Cl.kit (c : Cl K mg x C) (h : PySem.W.subIn K (.ref D) (.ref C) = some b) : PySem.W.kitOne K (.ref D) (.ref C) = some b := by
  unfold PySem.W.kitOne
  by_cases e : D = C
  · subst e
    rw [c.sf] at h
    cases h
    rw [if_pos (by simp)]
  · rw [if_neg (by simpa using e)]
    obtain ⟨cd, hc, _⟩ := PySem.W.any_some c.hd
    have e2 : ((PySem.W.clsIn K C).isSome && PySem.W.typeIn K (.ref C) == some (.type "type")) = true := by rw [hc, c.ty] <;> rfl
    show (if ((PySem.W.clsIn K C).isSome && PySem.W.typeIn K (.ref C) == some (.type "type")) = true then PySem.W.subIn K (.ref D) (.ref C) else none) = some b
    rw [if_pos e2, h]
theorem kit_VE (h : PySem.W.subIn K (.ref D) (.type "ValueError") = some b) : PySem.W.kitOne K (.ref D) (.type "ValueError") = some b := by
  unfold PySem.W.kitOne
  rw [if_neg (by simp)]
  show (if PySem.W.kitMeta "ValueError" = true then PySem.W.subIn K (.ref D) (.type "ValueError") else none) = some b
  rw [if_pos (by decide +kernel), h]
theorem kitAny_no (h : ∀ c ∈ cs, PySem.W.kitOne K cls c = some false) : PySem.W.kitAny K cls cs = some false := by
  induction cs with
  | nil => rfl
  | cons c r ih =>
    unfold PySem.W.kitAny
    rw [h c List.mem_cons_self]
    exact ih fun c' hc => h c' (List.mem_cons_of_mem _ hc)
end
theorem bb_ValueError : bootBuiltins "ValueError" = some (.type "ValueError") := by decide +kernel
end Kf
namespace Kf
open PySem PySem.Spec L2
open PyProof.Rows hiding St
variable {M : MX}
section
variable {X : Cx} {e : Expr} {es : List Expr} {fr : FA} {k : Nat} {f : Addr} {fd : FuncData} {ps : List Str} {dsp : DSp} {x : Str} {st : Stmt} {p pos : Pos}
/-- a call that could raise, but does not here -/
theorem de_callX0 (N : Fn X.K X.mg x st ps f fd) (G : FnOk X.prog X.w X.K X.mg X.base (L2.CX X.prog X.w) k f fd ps (liftSp X.K dsp)) (hr : Room k X.A) (hg : Gl X x)
    (ha : DA M X (e :: es) fr) (hdb : (x == ("__debug__" : Str)) = false := by decide) (he : starEach (e :: es) X.env = (false, eval e X.env) :: starEach es X.env := by rfl) (hpl : (backTo pos (starEach es X.env)).any (·.1) = false := by rfl) :
    DE M X (.Call (.Name x p) (e :: es) [] pos) (fCallX dsp RX0 fr) := peMono (pe_callS (E := WE fun _ _ _ _ => False) G hr hg N.m N.F.kp N.b (fun σ => passAt takes0 σ) ha hdb he hpl) fun σ H Q h => by
  obtain ⟨F, O, P, ρ, R, g, en, q, po⟩ := h
  refine ⟨F, O, P, ρ, _, g, en, q, fun ds O1 F1 H1 vs q1 s1 g1 r1 => ?_⟩
  exact ⟨F1, O1, P, ds, R, _, g1.mt, r1, q1, po.mt g1 s1, fun cls fs O' F' H' dd q2 s2 g2 xd => q2⟩
end
/-! ### text * 0, text * 1 -/
section
variable {X : Cx}
def rMulSD : R2D := fun x y O Q => match x, y with
  | .str a, .int n => (n = 0 ∧ Q (.str "") O) ∨ (n = 1 ∧ Q (.str a) O)
  | _, _ => False
theorem op_mulS : OpR X (binaryOp .Mult) (fun x y H Q => ∃ a n, x = .str a ∧ y = .int n ∧ ((n = 0 ∧ Q (.str "") H) ∨ (n = 1 ∧ Q (.str a) H))) := by
  intro pins s σ H x y v u Q I rx ry h
  obtain ⟨a, n, rfl, rfl, h⟩ := h
  obtain ⟨t, rfl⟩ := rx
  obtain ⟨t2, rfl⟩ := ry
  rcases h with ⟨rfl, q⟩ | ⟨rfl, q⟩
  · exact PySem.P.mul_str_none (by decide) (by decide) ⟨.str "", H, I.kept (t' := s.toks + 1) fun _ _ z => z, ⟨_, rfl⟩, q⟩
  · refine PySem.P.mul_str (by decide) (fun _ h => by simp at h) (fun _ h => by simp at h) ?_
    exact ⟨.str a, H, I, ⟨_, rfl⟩, q⟩
theorem od_mulS : OpD M X (binaryOp .Mult) rMulSD := by
  refine opD_of fun pins s σ F P H O x y dx dy v u R Q I rx ry gd r1 r2 q po => ?_
  unfold rMulSD at q
  split at q
  · rename_i a n
    simp only [Rep] at r1 r2
    refine ⟨_, op_mulS, a, n, r1, r2, ?_⟩
    exact q.imp (fun h => ⟨h.1, po.at gd h.2 (by simp only [Rep])⟩) (fun h => ⟨h.1, po.at gd h.2 (by simp only [Rep])⟩)
  · exact q.elim
end
end Kf
namespace Kf
open PySem PySem.Spec L2
open PyProof.Rows hiding St
variable {M : MX}
/-! ### xs[::-1] -/
section
variable {X : Cx} {e st : Expr} {fa : FE} {te : TE} {tst : TO} {fs : FO} {pos p2 : Pos}
theorem pe_sliceRev (he : PE X e te) (hs : PO X (some st) tst) : PE X (.Subscript e (.Slice none none (some st) p2) pos) (fun σ H Q => te σ H fun x H1 => tst σ H1 fun o H2 => o = some (-1) ∧ ∃ a xs, x = .ref a ∧ SqL X.K H2 a xs ∧ ∀ p, H2 p = none → Q (.ref p) (upd H2 p (.lst xs.reverse))) := by
  refine ⟨fun pins s σ H Q I h => ?_⟩
  refine Subscript_ (thn (he.run pins s σ H _ I h) fun v s1 ⟨x, H1, I1, r1, q1⟩ => ?_)
  refine wpAny_Slice ?_
  rw [evalPart_none]
  refine wpAny_pure (wpAny_pure ?_)
  refine thn (hs.run pins s1 σ H1 _ I1 q1) fun vk s3 ⟨o, H3, I3, pk, q3⟩ => ?_
  obtain ⟨rfl, a, xs, rfl, hx, q⟩ := q3
  cases r1
  have I4 : Inv X pins σ H3 { s3 with heap := s3.heap.push { cls := .type "slice", data := .fields #[.none, .none, vk] } } := I3.kept (t' := s3.toks) fun b ob q => Heap.get?_push_of_some _ q
  obtain ⟨its, r, ht, hz⟩ := I4.list hx
  have hlen := r.length
  refine tail_any (ops := [.ref a, .ref s3.heap.objs.size]) ht.isList.typeIs slot_list_getitem.lookup ?_ (by with_unfolding_all rfl)
  refine wpAny_getItem_list_slice ht.isList (Heap.IsSliceOf.new ..) .none .none pk (by decide) ?_ (by rw [List.size_toArray] <;> omega)
  rw [PySem.W.krv_pick]
  refine ⟨.ref _, _, I4.laid (t' := s3.toks) (o := .lst xs.reverse) (fun b ob q => Heap.get?_push_of_some _ q) (Nat.le_refl _) ?_, rfl, q _ (I4.hok.fresh (Nat.le_refl _))⟩
  refine ⟨by rw [List.length_reverse]; omega, its.reverse, 0, r.reverse, Heap.get?_push_size _ rfl⟩
def rRevD (x : D) (o : Option Int) (O : Ow) (Q : VD) : Prop := o = some (-1) ∧ match deref O x with
  | .lst xs => Q (.lst xs.reverse) O
  | _ => False
def fRev (fa : FE) (fs : FO) : FE := fun ρ O Q => fa ρ O fun x O1 => fs ρ O1 fun o O2 => rRevD x o O2 Q
theorem de_rev (he : DE M X e fa) (hs : DO M X (some st) fs) : DE M X (.Subscript e (.Slice none none (some st) p2) pos) (fRev fa fs) := peMono (pe_sliceRev he hs) fun σ H Q h => by
  obtain ⟨F, O, P, ρ, R, g, en, q, po⟩ := h
  refine ⟨F, O, P, ρ, _, g, en, q, fun x O1 F1 H1 v q1 s1 g1 r1 => ?_⟩
  refine ⟨F1, O1, P, ρ, _, g1, en.mono s1, q1, fun o O2 F2 H2 q2 s2 g2 => ?_⟩
  obtain ⟨e, q2⟩ := q2
  refine ⟨e, ?_⟩
  have r2 := r1.mono s2
  have h := g2.deref r2
  revert h q2
  generalize Kf.deref O2 x = y
  intro q2 h
  cases y <;> first | exact q2.elim | skip
  rename_i ds
  obtain ⟨a, xs, rfl, h1, h2⟩ := h
  exact ⟨a, xs, rfl, SqL.of h1, fun p hp => (po.more (s1.trans s2)).lst g2 q2 h2.reverse hp⟩
theorem rRev_l {xs : List D} {O : Ow} {Q : VD} : rRevD (.lst xs) (some (-1)) O Q = Q (.lst xs.reverse) O := by simp [rRevD, deref]
theorem rRev_r {xs : List D} {O : Ow} {Q : VD} {p : Addr} (h : O p = some (.lst xs)) : rRevD (.ref p) (some (-1)) O Q = Q (.lst xs.reverse) O := by simp [rRevD, deref, h]
end
/-! ### reversed(range(n)) -/
section
variable {X : Cx} {tg a : Expr} {fa : FE} {p p2 pos pos2 : Pos}
def asIR (d : D) (O : Ow) (Q : List D → Ow → Prop) : Prop := match d with
  | .int n => -(2 ^ 62) ≤ n ∧ n < 2 ^ 62 ∧ Q (rangeD 0 n.toNat).reverse O
  | _ => False
def fiRevR (fa : FE) : FI := fun ρ O Q => fa ρ O fun d O1 => asIR d O1 Q
theorem itOk_revR {K : PySem.W.Frag} {F : Hp} (n : Nat) : ItOk M K F (Itc ((n : Int) - 1) (-1) n) (rangeD 0 n).reverse := fun F2 O2 P2 H2 s2 g2 i => by
  refine ⟨fun d e => ?_, fun hi => ?_⟩
  · have hl : i < (rangeD 0 n).length := by
      obtain ⟨h, _⟩ := List.getElem?_eq_some_iff.mp e
      simpa using h
    rw [List.getElem?_reverse hl] at e
    rw [rangeD_length] at hl e
    obtain ⟨_, rfl⟩ := rangeD_get e
    refine ⟨hl, fun x H3 hy => ?_⟩
    obtain ⟨rfl, rfl⟩ := hy
    refine ⟨F2, Same.refl _, g2, ?_⟩
    simp only [Rep]
    congr 1
    omega
  · rw [List.length_reverse, rangeD_length] at hi
    exact hi
theorem di_revR (hg : Gl X "reversed") (hm : X.mg "reversed" = none) (hg2 : Gl X "range") (hm2 : X.mg "range" = none) (ha : DE M X a fa)
    (hs : starEach [.Call (.Name "range" p2) [a] [] pos2] X.env = (false, eval (.Call (.Name "range" p2) [a] [] pos2) X.env) :: starEach [] X.env := by rfl) (na : starEach [a] X.env = (false, eval a X.env) :: starEach [] X.env := by rfl) :
    DI M X tg (.Call (.Name "reversed" p) [.Call (.Name "range" p2) [a] [] pos2] [] pos) (fiRevR fa) := piMono (pi_revR hg hm (prg_1 hg2 hm2 ha na) hs) fun σ H Q h => by
  obtain ⟨F, O, P, ρ, R, g, en, q, po⟩ := h
  refine ⟨F, O, P, ρ, _, g, en, q, fun d O1 F1 H1 v q1 s1 g1 r1 => ?_⟩
  unfold asIR at q1
  split at q1
  · rename_i n
    simp only [Rep] at r1
    refine ⟨n, r1, by decide, by decide, q1.1, q1.2.1, po _ O1 F1 H1 _ q1.2.2 s1 g1 ?_⟩
    have e1 : (n - 0).toNat = n.toNat := by rw [Int.sub_zero]
    have e2 : (0 : Int) + ((n - 0).toNat : Nat) - 1 = ((n.toNat : Nat) : Int) - 1 := by rw [e1]; omega
    rw [e2, e1]
    exact itOk_revR _
  · exact q1.elim
theorem asIR_i {n : Int} {O : Ow} {Q : List D → Ow → Prop} : asIR (.int n) O Q = (-(2 ^ 62) ≤ n ∧ n < 2 ^ 62 ∧ Q (rangeD 0 n.toNat).reverse O) := rfl
end
/-! ### sorted, of texts -/
section
variable {X : Cx}
def rSortD : RAD := fun ds O Q => match ds with
  | [x] => match deref O x with
    | .lst xs => match asStrs xs with
      | some ts => ts.length < 64 ∧ ∀ ys : List Str, ys.Perm ts → sortedS ys = true → Q (.lst (ys.map .str)) O
      | none => False
    | _ => False
  | _ => False
theorem cd_sorted : CallD M X (.builtin "sorted") rSortD := by
  refine callD_of fun F P H O xs ds R Q g r q po => ?_
  unfold rSortD at q
  split at q <;> first | exact q.elim | skip
  rename_i x
  obtain ⟨v, rfl, r1⟩ := r.one'
  have h := g.deref r1
  revert h q
  generalize Kf.deref O x = y
  intro q h
  cases y <;> first | exact q.elim | skip
  rename_i ds
  dsimp only at q
  split at q
  · rename_i ts e
    have e2 := of_asStrs e
    subst e2
    obtain ⟨a, vs, rfl, h1, h2⟩ := h
    have e3 := h2.strs
    subst e3
    exact ⟨_, cr_sortedS, a, ts, rfl, SqL.of h1, q.1, fun ys p hp hs hn => po.lst g (q.2 ys hp hs) .of_strs hn⟩
  · exact q.elim
theorem rSort_l {ts : List Str} {O : Ow} {Q : VD} : rSortD [.lst (ts.map .str)] O Q = (ts.length < 64 ∧ ∀ ys : List Str, ys.Perm ts → sortedS ys = true → Q (.lst (ys.map .str)) O) := by simp only [rSortD, deref, asStrs_map]
theorem rSort_r {ts : List Str} {O : Ow} {Q : VD} {p : Addr} (h : O p = some (.lst (ts.map .str))) : rSortD [.ref p] O Q = (ts.length < 64 ∧ ∀ ys : List Str, ys.Perm ts → sortedS ys = true → Q (.lst (ys.map .str)) O) := by simp only [rSortD, deref, h, asStrs_map]
end
end Kf
namespace Kf
open PySem PySem.Spec L2
open PyProof.Rows hiding St
variable {M : MX}
section
variable {X : Cx} {pos : Pos}
/-- {} that never changes -/
def fEdic : FE := fun _ O Q => Q .edic O
theorem de_edic : DE M X (.Dict [] [] pos) fEdic := peMono pe_dnewK fun σ H Q h => by
  obtain ⟨F, O, P, ρ, R, g, en, q, po⟩ := h
  intro p hp
  have hF := g.freeF hp
  refine po .edic O (upd F p (.dK [])) _ _ q (same_upd hF) (g.new hp) ?_
  simp only [Rep]
  exact ⟨p, rfl, upd_same⟩
end
end Kf
namespace Kf
open PySem PySem.Spec L2
open PyProof.Rows hiding St
/-! ### the readings at their arguments -/
theorem ap_gSeq (g u : GS) {R : DEnds} {ρ : DEnv} {O : Ow} : gSeq g u R ρ O = (g { R with nx := u R } ρ O) := rfl
theorem ap_gIf (c : FT) (g u : GS) {R : DEnds} {ρ : DEnv} {O : Ow} : gIf c g u R ρ O = (c ρ O fun b O1 => if b = true then g R ρ O1 else u R ρ O1) := rfl
theorem ap_gRet (fe : FE) {R : DEnds} {ρ : DEnv} {O : Ow} : gRet fe R ρ O = (fe ρ O R.rt) := rfl
theorem ap_gNext  {R : DEnds} {ρ : DEnv} {O : Ow} : gNext  R ρ O = (R.nx ρ O) := rfl
theorem ap_gSet (fe : FE) (i : Nat) {R : DEnds} {ρ : DEnv} {O : Ow} : gSet fe i R ρ O = (fe ρ O fun d O1 => R.nx (ρ.set i (some d)) O1) := rfl
theorem ap_gAsg (fe : FE) (p : Pat) {R : DEnds} {ρ : DEnv} {O : Ow} : gAsg fe p R ρ O = (fe ρ O fun d O1 => patGet (patD p d ρ) fun ρ' => R.nx ρ' O1) := rfl
theorem ap_gDrop (fe : FE) {R : DEnds} {ρ : DEnv} {O : Ow} : gDrop fe R ρ O = (fe ρ O fun _ O1 => R.nx ρ O1) := rfl
theorem ap_gRetF (fe : FE) {R : DEnds} {ρ : DEnv} {O : Ow} : gRetF fe R ρ O = (fe ρ O fun d O1 => match d with
  | .ref a => match O1 a with
    | some (.lst ds) => R.rt (.lst ds) (delO O1 a)
    | _ => False
  | _ => False) := rfl
theorem ap_gRetN  {R : DEnds} {x1_ : DEnv} {O : Ow} : gRetN  R x1_ O = (R.rt .non O) := rfl
theorem ap_gFor (fi : FI) (p : Pat) (gb : GS) {R : DEnds} {ρ : DEnv} {O : Ow} : gFor fi p gb R ρ O = (fi ρ O fun ds O1 => forD p gb R ds ρ O1) := rfl
theorem ap_gSetIx (fo fi fe : FE) {R : DEnds} {ρ : DEnv} {O : Ow} : gSetIx fo fi fe R ρ O = (fe ρ O fun d O1 => fo ρ O1 fun x O2 => fi ρ O2 fun y O3 => rSetD x y d O3 (R.nx ρ)) := rfl
theorem ap_gBreak  {R : DEnds} {ρ : DEnv} {O : Ow} : gBreak  R ρ O = (R.bk ρ O) := rfl
theorem ap_fRev (fa : FE) (fs : FO) {ρ : DEnv} {O : Ow} {Q : VD} : fRev fa fs ρ O Q = (fa ρ O fun x O1 => fs ρ O1 fun o O2 => rRevD x o O2 Q) := rfl
theorem ap_fiRevR (fa : FE) {ρ : DEnv} {O : Ow} {Q : (List D → Ow → Prop)} : fiRevR fa ρ O Q = (fa ρ O fun d O1 => asIR d O1 Q) := rfl
theorem ap_fCallX (dsp : DSp) (RX : XW) (fr : FA) {ρ : DEnv} {O : Ow} {Q : VD} : fCallX dsp RX fr ρ O Q = (fr ρ O fun ds O1 => dsp ds O1 Q fun cls fs O' => RX cls fs ρ O') := rfl
theorem ap_gRaise (RX : XW) (cls : Value) {x0_ : DEnds} {ρ : DEnv} {O : Ow} : gRaise RX cls x0_ ρ O = (RX cls none ρ O) := rfl
theorem ap_gTry (K : PySem.W.Frag) (c : Value) (gb : XW → GS) (gs : Addr → Value → Option (List (Str × D)) → GS) (RXo : XW) {R : DEnds} {ρ : DEnv} {O : Ow} : gTry K c gb gs RXo R ρ O = (gb (xOnly K c gs RXo R) R ρ O) := rfl
theorem ap_gTryAs (K : PySem.W.Frag) (c : Value) (i : Nat) (gb : XW → GS) (gs : Addr → Value → Option (List (Str × D)) → GS) (RXo : XW) {R : DEnds} {ρ : DEnv} {O : Ow} : gTryAs K c i gb gs RXo R ρ O = (gb (xAs K c i gs RXo R) R ρ O) := rfl
theorem ap_gNever  {x0_ : DEnds} {x1_ : DEnv} {x2_ : Ow} : gNever  x0_ x1_ x2_ = (False) := rfl
theorem ap_fEdic  {x0_ : DEnv} {O : Ow} {Q : VD} : fEdic  x0_ O Q = (Q .edic O) := rfl
theorem ap_fTest (f : FE) {ρ : DEnv} {O : Ow} {Q : (Bool → Ow → Prop)} : fTest f ρ O Q = (f ρ O fun d O1 => ∃ k, d = .bl k ∧ Q k O1) := rfl
theorem ap_fOp (r : R2D) (fa fb : FE) {ρ : DEnv} {O : Ow} {Q : VD} : fOp r fa fb ρ O Q = (fa ρ O fun x O1 => fb ρ O1 fun y O2 => r x y O2 Q) := rfl
theorem ap_fVar (i : Nat) {ρ : DEnv} {O : Ow} {Q : VD} : fVar i ρ O Q = (envGet ρ[i]? O Q) := rfl
theorem ap_fC (d : D) {x0_ : DEnv} {O : Ow} {Q : VD} : fC d x0_ O Q = (Q d O) := rfl
theorem ap_fCB (r : RAD) (fr : FA) {ρ : DEnv} {O : Ow} {Q : VD} : fCB r fr ρ O Q = (fr ρ O fun ds O1 => r ds O1 Q) := rfl
theorem ap_fCons (fa : FE) (fr : FA) {ρ : DEnv} {O : Ow} {Q : (List D → Ow → Prop)} : fCons fa fr ρ O Q = (fa ρ O fun x O1 => fr ρ O1 fun xs O2 => Q (x :: xs) O2) := rfl
theorem ap_fNil  {x0_ : DEnv} {O : Ow} {Q : (List D → Ow → Prop)} : fNil  x0_ O Q = (Q [] O) := rfl
theorem ap_fCall (dsp : DSp) (fr : FA) {ρ : DEnv} {O : Ow} {Q : VD} : fCall dsp fr ρ O Q = (fr ρ O fun ds O1 => dsp ds O1 Q X0) := rfl
theorem ap_fAnd (t u : FT) {ρ : DEnv} {O : Ow} {Q : (Bool → Ow → Prop)} : fAnd t u ρ O Q = (t ρ O fun c O1 => if c = true then u ρ O1 Q else Q false O1) := rfl
theorem ap_fOr (t u : FT) {ρ : DEnv} {O : Ow} {Q : (Bool → Ow → Prop)} : fOr t u ρ O Q = (t ρ O fun c O1 => if c = true then Q true O1 else u ρ O1 Q) := rfl
theorem ap_fNot (t : FT) {ρ : DEnv} {O : Ow} {Q : (Bool → Ow → Prop)} : fNot t ρ O Q = (t ρ O fun c O1 => Q (!c) O1) := rfl
theorem ap_fAndV (fa fb : FE) {ρ : DEnv} {O : Ow} {Q : VD} : fAndV fa fb ρ O Q = (fa ρ O fun x O1 => ∃ c, x = .bl c ∧ if c = true then fb ρ O1 Q else Q (.bl false) O1) := rfl
theorem ap_fOrV (fa fb : FE) {ρ : DEnv} {O : Ow} {Q : VD} : fOrV fa fb ρ O Q = (fa ρ O fun x O1 => ∃ c, x = .bl c ∧ if c = true then Q (.bl true) O1 else fb ρ O1 Q) := rfl
theorem ap_fNotV (fa : FE) {ρ : DEnv} {O : Ow} {Q : VD} : fNotV fa ρ O Q = (fa ρ O fun x O1 => ∃ c, x = .bl c ∧ Q (.bl (!c)) O1) := rfl
theorem ap_fIf (t : FT) (fa fb : FE) {ρ : DEnv} {O : Ow} {Q : VD} : fIf t fa fb ρ O Q = (t ρ O fun c O1 => if c = true then fa ρ O1 Q else fb ρ O1 Q) := rfl
theorem ap_fTup (fr : FA) {ρ : DEnv} {O : Ow} {Q : VD} : fTup fr ρ O Q = (fr ρ O fun xs O1 => xs.length ≤ sizeLine ∧ Q (.tup xs) O1) := rfl
theorem ap_fLst (fr : FA) {ρ : DEnv} {O : Ow} {Q : VD} : fLst fr ρ O Q = (fr ρ O fun xs O1 => xs.length ≤ sizeLine ∧ Q (.lst xs) O1) := rfl
theorem ap_fLstO (fr : FA) {ρ : DEnv} {O : Ow} {Q : VD} : fLstO fr ρ O Q = (fr ρ O fun xs O1 => xs.length ≤ sizeLine ∧ ∀ p, O1 p = none → Q (.ref p) (updO O1 p (.lst xs))) := rfl
theorem ap_fChain (r r' : R2D) (fa fb fc : FE) {ρ : DEnv} {O : Ow} {Q : VD} : fChain r r' fa fb fc ρ O Q = (fa ρ O fun x O1 => fb ρ O1 fun y O2 => r x y O2 fun z O3 => ∃ k, z = .bl k ∧ (if k = true then fc ρ O3 fun w O4 => r' y w O4 Q else Q (.bl false) O3)) := rfl
theorem ap_fUn (r : R1D) (f : FE) {ρ : DEnv} {O : Ow} {Q : VD} : fUn r f ρ O Q = (f ρ O fun x O1 => r x O1 Q) := rfl
theorem ap_fBM (T : String) (r : RMD) (fo : FE) (fr : FA) {ρ : DEnv} {O : Ow} {Q : VD} : fBM T r fo fr ρ O Q = (fo ρ O fun x O1 => tyOk T O1 x = true ∧ fr ρ O1 fun ds O2 => r x ds O2 Q) := rfl
theorem ap_fBM0 (T : String) (r : RMD) (fo : FE) {ρ : DEnv} {O : Ow} {Q : VD} : fBM0 T r fo ρ O Q = (fo ρ O fun x O1 => tyOk T O1 x = true ∧ r x [] O1 Q) := rfl
theorem ap_fPool (fr : FA) {ρ : DEnv} {O : Ow} {Q : VD} : fPool fr ρ O Q = (fr ρ O fun xs O1 => rPool xs O1 Q) := rfl
theorem ap_fSl (r : R3D) (fe : FE) (fl fh : FO) {ρ : DEnv} {O : Ow} {Q : VD} : fSl r fe fl fh ρ O Q = (fe ρ O fun x O1 => fl ρ O1 fun l O2 => fh ρ O2 fun u O3 => r x l u O3 Q) := rfl
theorem ap_fPart (f : FE) {ρ : DEnv} {O : Ow} {Q : (Option Int → Ow → Prop)} : fPart f ρ O Q = (f ρ O fun d O1 => asI d O1 Q) := rfl
theorem ap_fNoPart  {x0_ : DEnv} {O : Ow} {Q : (Option Int → Ow → Prop)} : fNoPart  x0_ O Q = (Q none O) := rfl
theorem ap_fiRng1 (fr : FA) {ρ : DEnv} {O : Ow} {Q : (List D → Ow → Prop)} : fiRng1 fr ρ O Q = (fr ρ O fun ds O1 => asR1 ds O1 fun i n O2 => Q (rangeD i n) O2) := rfl
theorem ap_fiRng2 (fr : FA) {ρ : DEnv} {O : Ow} {Q : (List D → Ow → Prop)} : fiRng2 fr ρ O Q = (fr ρ O fun ds O1 => asR2 ds O1 fun i n O2 => Q (rangeD i n) O2) := rfl
theorem ap_fiList (fl : FE) {ρ : DEnv} {O : Ow} {Q : (List D → Ow → Prop)} : fiList fl ρ O Q = (fl ρ O fun d O1 => asL d O1 Q) := rfl
theorem ap_fiTup (fl : FE) {ρ : DEnv} {O : Ow} {Q : (List D → Ow → Prop)} : fiTup fl ρ O Q = (fl ρ O fun d O1 => asT d O1 Q) := rfl
theorem ap_fiStr (fl : FE) {ρ : DEnv} {O : Ow} {Q : (List D → Ow → Prop)} : fiStr fl ρ O Q = (fl ρ O fun d O1 => asSg d O1 Q) := rfl
theorem ap_fiEnum (fr : FA) {ρ : DEnv} {O : Ow} {Q : (List D → Ow → Prop)} : fiEnum fr ρ O Q = (fr ρ O fun ds O1 => asL1 ds O1 fun ds O2 => Q (enumD ds) O2) := rfl
theorem ap_fiZip (fr : FA) {ρ : DEnv} {O : Ow} {Q : (List D → Ow → Prop)} : fiZip fr ρ O Q = (fr ρ O fun ds O1 => asL2 ds O1 fun ds es O2 => Q (zipD ds es) O2) := rfl
theorem ap_fiRev (fr : FA) {ρ : DEnv} {O : Ow} {Q : (List D → Ow → Prop)} : fiRev fr ρ O Q = (fr ρ O fun ds O1 => asL1 ds O1 fun ds O2 => Q ds.reverse O2) := rfl
theorem ap_fLc (fi : FI) (p : Pat) (ft : FT) (fe : FE) (vs : List Nat) {ρ : DEnv} {O : Ow} {Q : VD} : fLc fi p ft fe vs ρ O Q = (fi ρ O fun ds O1 => lcD p ft fe (wipeD ρ vs) ds [] O1 fun acc O2 => Q (.lst acc) O2) := rfl
theorem ap_fLcO (fi : FI) (p : Pat) (ft : FT) (fe : FE) (vs : List Nat) {ρ : DEnv} {O : Ow} {Q : VD} : fLcO fi p ft fe vs ρ O Q = (fi ρ O fun ds O1 => lcD p ft fe (wipeD ρ vs) ds [] O1 fun acc O2 => ∀ q, O2 q = none → Q (.ref q) (updO O2 q (.lst acc))) := rfl
theorem ap_fYes  {x0_ : DEnv} {O : Ow} {Q : (Bool → Ow → Prop)} : fYes  x0_ O Q = (Q true O) := rfl
theorem ap_gAug (i : Nat) (fe : FE) (r : R2D) {R : DEnds} {ρ : DEnv} {O : Ow} : gAug i fe r R ρ O = (match ρ[i]? with
  | some (some x) => fe ρ O fun y O1 => r x y O1 fun z O2 => R.nx (ρ.set i (some z)) O2
  | _ => False) := rfl
end Kf
/-! Dl15: owned dicts whose keys are whole numbers and texts. -/
namespace Kf
open PySem PySem.Spec L2
open PyProof.Rows hiding St
variable {M : MX}
/-! ### tables of data -/
def keyOf : D → Option Key
  | .int i => some (.inl i)
  | .str s => some (.inr s)
  | _ => none
def keyD : Key → D
  | .inl i => .int i
  | .inr s => .str s
theorem keyOf_rep {K : PySem.W.Frag} {F : Hp} {d : D} {v : V} {k : Key} (h : keyOf d = some k) (r : Rep K F d v) : v = kV k := by
  cases d <;> simp only [keyOf] at h <;> first | cases h; done | skip
  all_goals
    cases h
    simp only [Rep] at r
    subst r
    rfl
theorem keyD_rep {K : PySem.W.Frag} {F : Hp} (k : Key) : Rep K F (keyD k) (kV k) := by
  cases k <;> simp only [keyD, Rep, kV]
def valD (kvs : List (Key × D)) (k : Key) : Option D := (kvs.find? fun kv => decide (kv.1 = k)).map (·.2)
def putD (kvs : List (Key × D)) (k : Key) (d : D) : List (Key × D) :=
  if (kvs.any fun kv => decide (kv.1 = k)) = true then kvs.map (fun kv => if kv.1 = k then (kv.1, d) else kv) else kvs ++ [(k, d)]
section
variable {K : PySem.W.Frag} {F H P : Hp} {O : Ow} {kvs : List (Key × D)} {vs : List (Key × V)} {k : Key} {d : D} {v : V} {a : Addr}
theorem KvOk.val (h : KvOk K F kvs vs) : (∀ d, valD kvs k = some d → ∃ v, valV vs k = some v ∧ Rep K F d v) ∧ (valD kvs k = none → valV vs k = none) := by
  induction h with
  | nil => exact ⟨fun d e => by simp [valD] at e, fun _ => rfl⟩
  | @cons p q _ _ r t ih =>
    obtain ⟨r1, r2⟩ := r
    by_cases e : p.1 = k
    · have e2 : q.1 = k := r1 ▸ e
      refine ⟨fun d h => ?_, fun h => ?_⟩
      · simp [valD, List.find?_cons, e] at h
        subst h
        exact ⟨q.2, valV_pos e2, r2⟩
      · simp [valD, List.find?_cons, e] at h
    · have e2 : ¬ q.1 = k := fun z => e (r1.trans z)
      rw [valV_neg e2]
      have e3 : ∀ l : List (Key × D), valD (p :: l) k = valD l k := fun l => by simp [valD, List.find?_cons, e]
      rw [e3]
      exact ih
theorem KvOk.any (h : KvOk K F kvs vs) : (kvs.any fun kv => decide (kv.1 = k)) = (vs.any fun kv => decide (kv.1 = k)) := by
  induction h with
  | nil => rfl
  | cons r _ ih => rw [List.any_cons, List.any_cons, ih, r.1]
theorem KvOk.put (h : KvOk K F kvs vs) (r : Rep K F d v) : KvOk K F (putD kvs k d) (putK vs k v) := by
  unfold putD putK
  rw [h.any (k := k)]
  split
  · rename_i hh; clear hh
    induction h with
    | nil => exact .nil
    | @cons p q _ _ z t ih =>
      rw [List.map_cons, List.map_cons]
      refine .cons ?_ ih
      by_cases e : p.1 = k
      · rw [if_pos e, if_pos (z.1 ▸ e)]; exact ⟨z.1, r⟩
      · rw [if_neg e, if_neg (fun w => e (z.1.trans w))]; exact z
  · exact Paired.snoc h ⟨rfl, r⟩
theorem KvOk.keys (h : KvOk K F kvs vs) : vs.map (·.1) = kvs.map (·.1) := by
  induction h with
  | nil => rfl
  | cons r _ ih => rw [List.map_cons, List.map_cons, ih, r.1]
/-- what a dict holds, locked or not -/
def dicAt (O : Ow) (a : Addr) : Option (List (Key × D)) := match O a with
  | some (.dic kvs) => some kvs
  | some (.dicL kvs _) => some kvs
  | _ => none
theorem Gd.dic (g : Gd M K F O P H) (h : dicAt O a = some kvs) : ∃ vs, Rd H a (.dK vs) ∧ KvOk K F kvs vs := by
  unfold dicAt at h
  split at h <;> first | cases h; done | skip
  · rename_i e
    cases h
    obtain ⟨_, _, vs, h1, h2⟩ := g.ow a _ e
    exact ⟨vs, .inl h1, h2⟩
  · rename_i e
    cases h
    obtain ⟨_, _, h1, od, vs, rfl, h2⟩ := g.ow a _ e
    exact ⟨vs, .inr ⟨od, h1⟩, h2⟩
/-- what stands at a key -/
def rKey (x y : D) (O : Ow) (N : Option D → Prop) : Prop := match x, keyOf y with
  | .ref a, some k => match dicAt O a with
    | some kvs => N (valD kvs k)
    | none => False
  | _, _ => False
theorem Gd.key (g : Gd M K F O P H) {x y : D} {w : V} {N : Option D → Prop} (rx : Rep K F x v) (ry : Rep K F y w) (q : rKey x y O N) :
    ∃ a o oV, v = .ref a ∧ DGet H a w oV ∧ IsD H a ∧ N o ∧ (∀ d, o = some d → ∃ z, oV = some z ∧ Rep K F d z) ∧ (o = none → oV = none) := by
  unfold rKey at q
  split at q <;> first | exact q.elim | skip
  rename_i a k e
  split at q <;> first | exact q.elim | skip
  rename_i kvs e2
  obtain ⟨vs, h1, h2⟩ := g.dic e2
  simp only [Rep] at rx
  have ew := keyOf_rep e ry
  subst ew
  obtain ⟨v1, v2⟩ := h2.val (k := k)
  exact ⟨a, _, _, rx, .inl ⟨vs, k, h1, rfl, rfl⟩, .inl ⟨vs, h1⟩, q, v1, v2⟩
end
section
variable {X : Cx} {o i e f value : Expr} {pos pos' apos cpos : Pos} {fo fi fe fx : FE}
/-- {} that changes -/
def fDicO : FE := fun _ O Q => ∀ p, O p = none → Q (.ref p) (updO O p (.dic []))
theorem de_dicO : DE M X (.Dict [] [] pos) fDicO := peMono pe_dnewK fun σ H Q h => by
  obtain ⟨F, O, P, ρ, R, g, en, q, po⟩ := h
  intro p hp
  exact po (.ref p) _ F _ _ (q p (g.freeO hp)) (Same.refl _) (g.newO hp ⟨[], upd_same, .nil⟩) (by simp only [Rep])
/-- d[k] -/
def rDGet (x y : D) (O : Ow) (Q : VD) : Prop := rKey x y O fun o => match o with
  | some d => Q d O
  | none => False
def fDGet (fo fi : FE) : FE := fun ρ O Q => fo ρ O fun x O1 => fi ρ O1 fun y O2 => rDGet x y O2 Q
theorem de_dget (hu : X.A.units + 200 < cLine) (ho : DE M X o fo) (hi : DE M X i fi) (hs : NoSl i := by intro _ _; rfl) : DE M X (.Subscript o i pos) (fDGet fo fi) := peMono (pe_dget (by omega) ho hi hs) fun σ H Q h => by
  obtain ⟨F, O, P, ρ, R, g, en, q, po⟩ := h
  refine ⟨F, O, P, ρ, _, g, en, q, fun x O1 F1 H1 v q1 s1 g1 r1 => ?_⟩
  refine ⟨F1, O1, P, ρ, _, g1, en.mono s1, q1, fun y O2 F2 H2 w q2 s2 g2 r2 => ?_⟩
  obtain ⟨a, od, oV, rfl, h1, _, n, h2, h3⟩ := g2.key (r1.mono s2) r2 q2
  cases od with
  | none => exact n.elim
  | some d =>
    obtain ⟨z, rfl, rz⟩ := h2 d rfl
    exact ⟨a, z, rfl, h1, (po.more (s1.trans s2)).at g2 n rz⟩
/-- d.get(k), d.get(k, x) -/
def isDc (O : Ow) (x : D) : Bool := match x with
  | .ref a => (dicAt O a).isSome
  | _ => false
theorem isDc_of {K : PySem.W.Frag} {F P H : Hp} {O : Ow} {x : D} {v : V} (g : Gd M K F O P H) (r : Rep K F x v) (h : isDc O x = true) : ∃ a, v = .ref a ∧ IsD H a := by
  cases x <;> simp only [isDc] at h <;> first | cases h; done | skip
  rename_i a
  simp only [Rep] at r
  obtain ⟨kvs, e⟩ := Option.isSome_iff_exists.mp h
  obtain ⟨vs, h1, _⟩ := g.dic e
  exact ⟨a, r, .inl ⟨vs, h1⟩⟩
def fDGet1 (fo fi : FE) : FE := fun ρ O Q => fo ρ O fun x O1 => isDc O1 x = true ∧ fi ρ O1 fun y O2 => rKey x y O2 fun o => Q (o.getD .non) O2
theorem de_dget1 (hu : X.A.units + 200 < cLine) (ho : DE M X o fo) (he : DE M X e fe) (m : M1 X o "get" apos e cpos := by exact ⟨by rfl, by rfl, by rfl, by rfl⟩) : DE M X (.Call (.Attribute o "get" apos) [e] [] cpos) (fDGet1 fo fe) := peMono (pe_dget1 (by omega) ho he m) fun σ H Q h => by
  obtain ⟨F, O, P, ρ, R, g, en, q, po⟩ := h
  refine ⟨F, O, P, ρ, _, g, en, q, fun x O1 F1 H1 v q1 s1 g1 r1 => ?_⟩
  obtain ⟨a, rfl, hd⟩ := isDc_of g1 r1 q1.1
  refine ⟨a, rfl, hd, F1, O1, P, ρ, _, g1, en.mono s1, q1.2, fun y O2 F2 H2 w q2 s2 g2 r2 => ?_⟩
  obtain ⟨a', od, oV, e, h1, _, n, h2, h3⟩ := g2.key (r1.mono s2) r2 q2
  cases e
  refine ⟨oV, h1, ?_⟩
  cases od with
  | none => rw [h3 rfl]; exact (po.more (s1.trans s2)).at g2 n (by simp only [Option.getD_none, Rep])
  | some d =>
    obtain ⟨z, rfl, rz⟩ := h2 d rfl
    exact (po.more (s1.trans s2)).at g2 n rz
def fDGet2 (fo fi fx : FE) : FE := fun ρ O Q => fo ρ O fun x O1 => isDc O1 x = true ∧ fi ρ O1 fun y O2 => fx ρ O2 fun z O3 => rKey x y O3 fun o => Q (o.getD z) O3
theorem de_dget2 (hu : X.A.units + 200 < cLine) (ho : DE M X o fo) (he : DE M X e fe) (hf : DE M X f fx) (m : M2 X o "get" apos e f cpos := by exact ⟨by rfl, by rfl, by rfl, by rfl⟩) : DE M X (.Call (.Attribute o "get" apos) [e, f] [] cpos) (fDGet2 fo fe fx) := peMono (pe_dget2 (by omega) ho he hf m) fun σ H Q h => by
  obtain ⟨F, O, P, ρ, R, g, en, q, po⟩ := h
  refine ⟨F, O, P, ρ, _, g, en, q, fun x O1 F1 H1 v q1 s1 g1 r1 => ?_⟩
  obtain ⟨a, rfl, hd⟩ := isDc_of g1 r1 q1.1
  refine ⟨a, rfl, hd, F1, O1, P, ρ, _, g1, en.mono s1, q1.2, fun y O2 F2 H2 w q2 s2 g2 r2 => ?_⟩
  refine ⟨F2, O2, P, ρ, _, g2, en.mono (s1.trans s2), q2, fun z O3 F3 H3 u q3 s3 g3 r3 => ?_⟩
  obtain ⟨a', od, oV, e, h1, _, n, h2, h3⟩ := g3.key (r1.mono (s2.trans s3)) (r2.mono s3) q3
  cases e
  refine ⟨oV, h1, ?_⟩
  cases od with
  | none => rw [h3 rfl]; exact (po.more (s1.trans (s2.trans s3))).at g3 n r3
  | some d =>
    obtain ⟨z, rfl, rz⟩ := h2 d rfl
    exact (po.more (s1.trans (s2.trans s3))).at g3 n rz
/-- k in d -/
def rDIn (neg : Bool) : R2D := fun y x O Q => rKey x y O fun o => Q (.bl (o.isSome != neg)) O
theorem od_din (hu : X.A.units + 200 < cLine) : OpD M X (compareOp .In) (rDIn false) := by
  intro pins s σ H y x u v Q I ry rx h
  obtain ⟨F, O, P, dy, dx, R, g, r1, r2, q, po⟩ := h
  obtain ⟨a, od, oV, rfl, h1, _, n, h2, h3⟩ := g.key r2 r1 q
  obtain rfl : v = Value.ref a := rx
  refine d_in (by omega) I h1 ry fun s' I' => ⟨.bl oV.isSome, H, I', rfl, ?_⟩
  have e : oV.isSome = od.isSome := by
    cases od with
    | none => simp [h3 rfl]
    | some d => obtain ⟨z, rfl, _⟩ := h2 d rfl; rfl
  exact po.at g n (by simp [Rep, e])
theorem od_dnotin (hu : X.A.units + 200 < cLine) : OpD M X (compareOp .NotIn) (rDIn true) := by
  intro pins s σ H y x u v Q I ry rx h
  obtain ⟨F, O, P, dy, dx, R, g, r1, r2, q, po⟩ := h
  obtain ⟨a, od, oV, rfl, h1, _, n, h2, h3⟩ := g.key r2 r1 q
  obtain rfl : v = Value.ref a := rx
  refine d_notIn (by omega) I h1 ry fun s' I' => ⟨.bl (!oV.isSome), H, I', rfl, ?_⟩
  have e : oV.isSome = od.isSome := by
    cases od with
    | none => simp [h3 rfl]
    | some d => obtain ⟨z, rfl, _⟩ := h2 d rfl; rfl
  exact po.at g n (by simp [Rep, e])
/-- d[k] = v -/
def rDPut (x y d : D) (O : Ow) (N : Ow → Prop) : Prop := match x, keyOf y with
  | .ref a, some k => match O a with
    | some (.dic kvs) => kvs.length < sizeLine ∧ N (updO O a (.dic (putD kvs k d)))
    | _ => False
  | _, _ => False
def gDPut (fo fi fe : FE) : GS := fun R ρ O => fe ρ O fun d O1 => fo ρ O1 fun x O2 => fi ρ O2 fun y O3 => rDPut x y d O3 (R.nx ρ)
theorem ds_dput (hu : X.A.units + 200 < cLine) (ho : DE M X o fo) (hi : DE M X i fi) (he : DE M X value fe) (hs : swapsWith value (some (.Subscript o i pos')) pos.line X.env = pure false := by rfl) :
    DS M X (.Assign [.Subscript o i pos'] value pos) (gDPut fo fi fe) := psMono (ps_dput (by omega) ho hi he hs) fun D σ H h => by
  obtain ⟨F, O, P, ρ, R, g, en, q, po⟩ := h
  refine ⟨F, O, P, ρ, _, g, en, q, fun d O1 F1 H1 v q1 s1 g1 r1 => ?_⟩
  refine ⟨F1, O1, P, ρ, _, g1, en.mono s1, q1, fun x O2 F2 H2 w q2 s2 g2 r2 => ?_⟩
  refine ⟨F2, O2, P, ρ, _, g2, en.mono (s1.trans s2), q2, fun y O3 F3 H3 z q3 s3 g3 r3 => ?_⟩
  unfold rDPut at q3
  split at q3 <;> first | exact q3.elim | skip
  rename_i a k e
  split at q3 <;> first | exact q3.elim | skip
  rename_i kvs e2
  obtain ⟨_, _, vs, h1, h2⟩ := g3.ow a _ e2
  simp only [Rep] at r2
  subst r2
  have ez := keyOf_rep e r3
  subst ez
  have s4 := s1.trans (s2.trans s3)
  refine ⟨a, _, rfl, .k h1 (by rw [← h2.length]; exact q3.1), ?_⟩
  exact po.nx ρ _ F3 _ σ q3.2 s4 (g3.setO e2 ⟨_, upd_same, h2.put (r1.mono (s2.trans s3))⟩) (en.mono s4)
end
/-! ### the keys of a dict -/
section
variable {X : Cx}
def asStrK : List Key → Option (List Str)
  | [] => some []
  | .inr s :: r => (asStrK r).map (s :: ·)
  | .inl _ :: _ => none
theorem asStrK_of : ∀ {l : List Key} {ts : List Str}, asStrK l = some ts → l = ts.map Sum.inr
  | [], _, h => by cases h; rfl
  | .inr s :: r, ts, h => by
    simp only [asStrK] at h
    obtain ⟨u, e, rfl⟩ := Option.map_eq_some_iff.mp h
    rw [asStrK_of e, List.map_cons]
  | .inl _ :: _, _, h => by simp [asStrK] at h
theorem asStrK_map (ts : List Str) : asStrK (ts.map Sum.inr) = some ts := by
  induction ts with
  | nil => rfl
  | cons s r ih => simp [asStrK, ih]
/-- sorted(d), all keys texts -/
def rSortK : RAD := fun ds O Q => match ds with
  | [.ref a] => match dicAt O a with
    | some kvs => match asStrK (kvs.map (·.1)) with
      | some ts => ts.length < 64 ∧ ∀ ys : List Str, ys.Perm ts → sortedS ys = true → Q (.lst (ys.map .str)) O
      | none => False
    | none => False
  | _ => False
theorem cd_sortedK (hc : X.calm = true) : CallD M X (.builtin "sorted") rSortK := by
  refine callD_of fun F P H O xs ds R Q g r q po => ?_
  unfold rSortK at q
  split at q <;> first | exact q.elim | skip
  rename_i a
  split at q <;> first | exact q.elim | skip
  rename_i kvs e
  split at q <;> first | exact q.elim | skip
  rename_i ts e2
  obtain ⟨v, rfl, r1⟩ := r.one'
  simp only [Rep] at r1
  subst r1
  obtain ⟨vs, h1, h2⟩ := g.dic e
  exact ⟨_, call_sortedD hc, a, vs, ts, rfl, h1, by rw [h2.keys]; exact asStrK_of e2, q.1, fun ys p hp hs hn => po.lst g (q.2 ys hp hs) .of_strs hn⟩
end
/-! ### isinstance(x, (T1, T2, ..)) -/
section
variable {X : Cx} {a : Expr} {es : List Expr} {fa : FE} {fr : FA} {p pos tpos : Pos}
def asTys : List D → Option (List String)
  | [] => some []
  | .ty n :: r => (asTys r).map (n :: ·)
  | _ :: _ => none
theorem asTys_rep {K : PySem.W.Frag} {F : Hp} : ∀ {ds : List D} {ns : List String} {vs : List V}, asTys ds = some ns → RepAll K F ds vs → Paired ClsV vs (ns.map Value.type)
  | [], _, _, h, r => by
    cases h
    simp only [RepAll] at r
    subst r
    exact .nil
  | .ty n :: ds, ns, vs, h, r => by
    simp only [asTys] at h
    obtain ⟨u, e, rfl⟩ := Option.map_eq_some_iff.mp h
    simp only [RepAll, Rep] at r
    obtain ⟨v, r', rfl, rfl, h2⟩ := r
    exact .cons (.ty n) (asTys_rep e h2)
  | .non :: _, _, _, h, _ => by simp [asTys] at h
  | .bl _ :: _, _, _, h, _ => by simp [asTys] at h
  | .int _ :: _, _, _, h, _ => by simp [asTys] at h
  | .str _ :: _, _, _, h, _ => by simp [asTys] at h
  | .tup _ :: _, _, _, h, _ => by simp [asTys] at h
  | .lst _ :: _, _, _, h, _ => by simp [asTys] at h
  | .ref _ :: _, _, _, h, _ => by simp [asTys] at h
  | .scr _ :: _, _, _, h, _ => by simp [asTys] at h
  | .edic :: _, _, _, h, _ => by simp [asTys] at h
def rIsiTs (x : D) (ds : List D) (O : Ow) (Q : VD) : Prop := match asTys ds with
  | some ns => ns.length ≤ sizeLine ∧ (ns.all fun n => insCl.contains n) = true ∧ insTy.contains (tyNm O x) = true ∧ Q (.bl (ns.any (insOf (tyNm O x)))) O
  | none => False
theorem kitAny_of {K : PySem.W.Frag} {t : String} (ht : insTy.contains t = true) : ∀ {ns : List String}, (ns.all fun n => insCl.contains n) = true → PySem.W.kitAny K (.type t) (ns.map Value.type) = some (ns.any (insOf t))
  | [], _ => rfl
  | n :: ns, h => by
    rw [List.all_cons, Bool.and_eq_true] at h
    rw [List.map_cons, List.any_cons]
    refine kitAny_cons (kit_ty (ins_kit' (by simpa using ht) (by simpa using h.1))) (fun e => ?_) (fun e => ?_)
    · rw [e, Bool.false_or]; exact kitAny_of ht h.2
    · rw [e, Bool.true_or]
def fIsiT (fa : FE) (fr : FA) : FE := fun ρ O Q => fa ρ O fun x O1 => fr ρ O1 fun ds O2 => rIsiTs x ds O2 Q
theorem de_isiT {x1} (hg : Gl X "isinstance") (hm : X.mg "isinstance" = none) (ha : DE M X a fa) (hr : DA M X es fr)
    (he : starEach [a, .Tuple es x1 tpos] X.env = (false, eval a X.env) :: starEach [.Tuple es x1 tpos] X.env := by rfl)
    (he2 : starEach [.Tuple es x1 tpos] X.env = (false, eval (.Tuple es x1 tpos) X.env) :: starEach [] X.env := by rfl)
    (hpl : (backTo pos (starEach [.Tuple es x1 tpos] X.env)).any (·.1) = false := by rfl) : DE M X (.Call (.Name "isinstance" p) [a, .Tuple es x1 tpos] [] pos) (fIsiT fa fr) :=
  peMono (pe_callB call_isiT hg hm bb_isinstance (pa_cons ha (pa_cons (pe_tup hr) pa_nil he2) he) (by decide) (by decide) he hpl) fun σ H Q h => by
    obtain ⟨F, O, P, ρ, R, g, en, q, po⟩ := h
    refine ⟨F, O, P, ρ, _, g, en, q, fun x O1 F1 H1 v q1 s1 g1 r1 => ?_⟩
    refine ⟨F1, O1, P, ρ, _, g1, en.mono s1, q1, fun ds O2 F2 H2 vs q2 s2 g2 r2 => ?_⟩
    unfold rIsiTs at q2
    split at q2 <;> first | exact q2.elim | skip
    rename_i ns e
    have pr := asTys_rep e r2
    obtain ⟨q3, q4, q5, q6⟩ := q2
    have hl : vs.length = ns.length := by rw [pr.length, List.length_map]
    refine ⟨by rw [hl]; exact q3, fun tp hp => ?_⟩
    have g3 := g2.skip (o := .tup vs) hp
    exact ⟨v, tp, vs, _, _, _, rfl, upd_same, pr, tyX_of g3 (r1.mono s2) q5, kitAny_of q5 q4, (po.more (s1.trans s2)).at g3 q6 (by simp only [Rep])⟩
end
/-! ### a walk along an owned list that stays -/
section
variable {X : Cx} {tg l : Expr} {fl : FE} {pos : Pos}
def forR (a : Addr) (all : List D) (p : Pat) (gb : GS) (R : DEnds) : List D → DEnv → Ow → Prop
  | [], ρ, O => O a = some (.lst all) ∧ R.nx ρ O
  | d :: ds, ρ, O => O a = some (.lst all) ∧ patGet (patD p d ρ) fun ρ1 => gb { R with nx := forR a all p gb R ds, ct := forR a all p gb R ds, bk := R.nx } ρ1 O
def asLR (d : D) (O : Ow) (Q : Addr → List D → Ow → Prop) : Prop := match d with
  | .ref a => match O a with
    | some (.lst ds) => Q a ds O
    | _ => False
  | _ => False
def gForR (fl : FE) (p : Pat) (gb : GS) : GS := fun R ρ O => fl ρ O fun x O1 => asLR x O1 fun a ds O2 => forR a ds p gb R ds ρ O2
theorem ds_forR {body : List Stmt} {p : Pat} {gb : GS} (hp : PassesOwn (model X.prog X.w) X.A X.env X.xe) (hc : X.calm = true) (hl : DE M X l fl) (hg : DP X tg p) (hb : DSs M X body gb)
    (hs : ∀ x, foldedSetIterable l X.env x = pure x := by intro _; rfl) : DS M X (.For tg l body [] pos) (gForR fl p gb) := psMono (ps_for hp hc (pi_list hl) hg hb hs) fun D σ H h => by
  obtain ⟨F, O, P, ρ, R, g, en, q, po⟩ := h
  refine ⟨F, O, P, ρ, _, g, en, q, fun x O1 F1 H1 v q1 s1 g1 r1 => ?_⟩
  unfold asLR at q1
  split at q1 <;> first | exact q1.elim | skip
  rename_i a
  split at q1 <;> first | exact q1.elim | skip
  rename_i ds e
  simp only [Rep] at r1
  subst r1
  obtain ⟨_, _, vs, h1, h2⟩ := g1.ow a _ e
  refine ⟨a, rfl, ⟨vs, SqL.of h1⟩, ?_⟩
  refine ⟨fun i m σ H => ∃ F2 O2 ρ2, i + m = ds.length ∧ Same F1 F2 ∧ Gd M X.K F2 O2 P H ∧ EnvOk X.K F2 ρ2 σ ∧ forR a ds p gb R (ds.drop i) ρ2 O2,
    ⟨ds.length, F1, O1, ρ, by omega, Same.refl _, g1, en.mono s1, by rw [List.drop_zero]; exact q1⟩, fun i m σ2 H2 hW => ?_⟩
  obtain ⟨F2, O2, ρ2, hm, s2, g2, en2, q2⟩ := hW
  by_cases hi : i < ds.length
  · rw [List.drop_eq_getElem_cons hi] at q2
    unfold forR at q2
    obtain ⟨e2, q2⟩ := q2
    obtain ⟨_, _, ws, h3, h4⟩ := g2.ow a _ e2
    have sq : SqL X.K H2 a ws := SqL.of h3
    obtain ⟨w, e3, r3⟩ := h4.get (List.getElem?_eq_getElem hi)
    refine .inr ⟨⟨ws, w, sq, e3⟩, fun σ' H' => ∃ F3 O3 ρ3, Same F1 F3 ∧ Gd M X.K F3 O3 P H' ∧ EnvOk X.K F3 ρ3 σ' ∧ forR a ds p gb R (ds.drop (i + 1)) ρ3 O3, fun σ' H' hN => ?_, fun x H' hyy => ?_⟩
    · obtain ⟨F3, O3, ρ3, s3, g3, en3, q3⟩ := hN
      exact ⟨m - 1, by omega, F3, O3, ρ3, by omega, s3, g3, en3, q3⟩
    · obtain ⟨rfl, hx⟩ := hyy
      have hxx := hx ws sq
      rw [e3] at hxx
      cases hxx
      cases e1 : patD p ds[i] ρ2 with
      | none => rw [e1] at q2; exact q2.elim
      | some ρ3 =>
        rw [e1] at q2
        refine pat_ok g2 p ds[i] _ ρ2 ρ3 σ2 _ e1 r3 en2 fun σ4 en4 _ => ?_
        refine ⟨F2, O2, P, ρ3, _, g2, en4, q2, ⟨fun ρ5 O5 F5 H5 σ5 q5 s5 g5 en5 => ?_, ?_, ?_, fun ρ5 O5 F5 H5 σ5 q5 s5 g5 en5 => ?_⟩⟩
        · exact ⟨F5, O5, ρ5, s2.trans s5, g5, en5, q5⟩
        · exact po.rt.more (s1.trans s2)
        · exact po.nx.more (s1.trans s2)
        · exact ⟨F5, O5, ρ5, s2.trans s5, g5, en5, q5⟩
  · rw [List.drop_eq_nil_of_le (by omega)] at q2
    unfold forR at q2
    obtain ⟨e2, q2⟩ := q2
    obtain ⟨_, _, ws, h3, h4⟩ := g2.ow a _ e2
    exact .inl ⟨⟨ws, SqL.of h3, by rw [← h4.length]; omega⟩, po.nx ρ2 O2 F2 H2 σ2 q2 (s1.trans s2) g2 en2⟩
end
/-! ### a list times a number -/
section
variable {X : Cx} {K : PySem.W.Frag} {F : Hp}
theorem RepAll.reps {ds : List D} {vs : List V} (h : RepAll K F ds vs) : ∀ n : Nat, RepAll K F (List.replicate n ds).flatten (List.replicate n vs).flatten
  | 0 => .nil
  | n + 1 => by
    rw [List.replicate_succ, List.replicate_succ, List.flatten_cons, List.flatten_cons]
    exact h.append (RepAll.reps h n)
def rRepD : R2D := fun x y O Q => match x, y with
  | .lst ds, .int k => (-(2 ^ 63) ≤ k ∧ k < 2 ^ 63 ∧ ds.length * k.toNat ≤ sizeLine) ∧ Q (.lst (List.replicate k.toNat ds).flatten) O
  | _, _ => False
theorem od_rep : OpD M X (binaryOp .Mult) rRepD := by
  refine opD_of fun pins s σ F P H O x y dx dy v u R Q I rx ry gd r1 r2 q po => ?_
  unfold rRepD at q
  split at q
  · rename_i ds k
    simp only [Rep] at r1 r2
    obtain ⟨a, xs, rfl, h1, h2⟩ := r1
    subst r2
    obtain ⟨⟨q1, q2, q3⟩, q4⟩ := q
    exact ⟨_, op_rep, a, k, xs, rfl, rfl, gd.fz _ _ h1, q1, q2, by rw [← h2.length]; exact q3, fun p hp => po.lst gd q4 (h2.reps _) hp⟩
  · exact q.elim
end
/-! ### a call without arguments -/
section
variable {X : Cx} {k : Nat} {f : Addr} {fd : FuncData} {ps : List Str} {dsp : DSp} {x : Str} {st : Stmt} {p pos : Pos}
theorem de_callN0 (N : Fn X.K X.mg x st ps f fd) (G : FnOk X.prog X.w X.K X.mg X.base CX0 k f fd ps (liftSp X.K dsp)) (hr : Room k X.A) (hg : Gl X x) (hdb : (x == ("__debug__" : Str)) = false := by decide) :
    DE M X (.Call (.Name x p) [] [] pos) (fCall dsp fNil) := peMono (pe_call0 G hr hg N.m N.F.kp N.b .nil pass0 hdb) fun σ H Q h => by
  obtain ⟨F, O, P, ρ, R, g, en, q, po⟩ := h
  show liftSp X.K dsp ([] ++ []) H Q E0
  exact ⟨F, O, P, [], R, X0, g.mt, .nil, q, po.mt g (Same.refl _), fun _ _ _ _ _ _ z => z.elim⟩
end
/-! ### the readings at their arguments -/
theorem ap_fDicO {ρ : DEnv} {O : Ow} {Q : VD} : fDicO ρ O Q = (∀ p, O p = none → Q (.ref p) (updO O p (.dic []))) := rfl
theorem ap_fDGet (fo fi : FE) {ρ : DEnv} {O : Ow} {Q : VD} : fDGet fo fi ρ O Q = (fo ρ O fun x O1 => fi ρ O1 fun y O2 => rDGet x y O2 Q) := rfl
theorem ap_fDGet1 (fo fi : FE) {ρ : DEnv} {O : Ow} {Q : VD} : fDGet1 fo fi ρ O Q = (fo ρ O fun x O1 => isDc O1 x = true ∧ fi ρ O1 fun y O2 => rKey x y O2 fun o => Q (o.getD .non) O2) := rfl
theorem ap_fDGet2 (fo fi fx : FE) {ρ : DEnv} {O : Ow} {Q : VD} : fDGet2 fo fi fx ρ O Q = (fo ρ O fun x O1 => isDc O1 x = true ∧ fi ρ O1 fun y O2 => fx ρ O2 fun z O3 => rKey x y O3 fun o => Q (o.getD z) O3) := rfl
theorem ap_gDPut (fo fi fe : FE) {R : DEnds} {ρ : DEnv} {O : Ow} : gDPut fo fi fe R ρ O = (fe ρ O fun d O1 => fo ρ O1 fun x O2 => fi ρ O2 fun y O3 => rDPut x y d O3 (R.nx ρ)) := rfl
theorem ap_fIsiT (fa : FE) (fr : FA) {ρ : DEnv} {O : Ow} {Q : VD} : fIsiT fa fr ρ O Q = (fa ρ O fun x O1 => fr ρ O1 fun ds O2 => rIsiTs x ds O2 Q) := rfl
theorem ap_gForR (fl : FE) (p : Pat) (gb : GS) {R : DEnds} {ρ : DEnv} {O : Ow} : gForR fl p gb R ρ O = (fl ρ O fun x O1 => asLR x O1 fun a ds O2 => forR a ds p gb R ds ρ O2) := rfl
section
variable {O : Ow} {a : Addr} {kvs : List (Key × D)} {Q : VD} {N : Option D → Prop} {k : Key} {x y d : D} {t : Str} {i : Int}
theorem dicAt_d (h : O a = some (.dic kvs)) : dicAt O a = some kvs := by simp only [dicAt, h]
theorem isDc_r (h : O a = some (.dic kvs)) : isDc O (.ref a) = true := by simp only [isDc, dicAt_d h, Option.isSome_some]
theorem rKey_s (h : O a = some (.dic kvs)) : rKey (.ref a) (.str t) O N = N (valD kvs (.inr t)) := by simp only [rKey, keyOf, dicAt_d h]
theorem rKey_i (h : O a = some (.dic kvs)) : rKey (.ref a) (.int i) O N = N (valD kvs (.inl i)) := by simp only [rKey, keyOf, dicAt_d h]
theorem rDPut_s {N : Ow → Prop} (h : O a = some (.dic kvs)) : rDPut (.ref a) (.str t) d O N = (kvs.length < sizeLine ∧ N (updO O a (.dic (putD kvs (.inr t) d)))) := by simp only [rDPut, keyOf, h]
theorem rDPut_i {N : Ow → Prop} (h : O a = some (.dic kvs)) : rDPut (.ref a) (.int i) d O N = (kvs.length < sizeLine ∧ N (updO O a (.dic (putD kvs (.inl i) d)))) := by simp only [rDPut, keyOf, h]
theorem rSortK_r {ts : List Str} (h : O a = some (.dic kvs)) (e : kvs.map (·.1) = ts.map Sum.inr) : rSortK [.ref a] O Q = (ts.length < 64 ∧ ∀ ys : List Str, ys.Perm ts → sortedS ys = true → Q (.lst (ys.map .str)) O) := by
  simp only [rSortK, dicAt_d h, e, asStrK_map]
theorem rRep_l {ds : List D} : rRepD (.lst ds) (.int i) O Q = ((-(2 ^ 63) ≤ i ∧ i < 2 ^ 63 ∧ ds.length * i.toNat ≤ sizeLine) ∧ Q (.lst (List.replicate i.toNat ds).flatten) O) := rfl
theorem asLR_r {xs : List D} {Q : Addr → List D → Ow → Prop} (h : O a = some (.lst xs)) : asLR (.ref a) O Q = Q a xs O := by simp only [asLR, h]
theorem sl1 : ((["list", "tuple"] : List String).length ≤ sizeLine) = True := by simp [sizeLine]
theorem isT_lt (h : insTy.contains (tyNm O x) = true) : rIsiTs x [.ty "list", .ty "tuple"] O Q = Q (.bl (["list", "tuple"].any (insOf (tyNm O x)))) O := by
  have e : asTys [D.ty "list", D.ty "tuple"] = some ["list", "tuple"] := rfl
  have e2 : ((["list", "tuple"] : List String).all fun n => insCl.contains n) = true := by decide
  simp only [rIsiTs, e, sl1, h, e2, true_and]
theorem isT_i : rIsiTs (.int i) [.ty "list", .ty "tuple"] O Q = Q (.bl false) O := isT_lt rfl
theorem isT_s : rIsiTs (.str t) [.ty "list", .ty "tuple"] O Q = Q (.bl false) O := isT_lt rfl
theorem isT_b {b : Bool} : rIsiTs (.bl b) [.ty "list", .ty "tuple"] O Q = Q (.bl false) O := isT_lt rfl
theorem isT_n : rIsiTs .non [.ty "list", .ty "tuple"] O Q = Q (.bl false) O := isT_lt rfl
theorem isT_t {xs : List D} : rIsiTs (.tup xs) [.ty "list", .ty "tuple"] O Q = Q (.bl true) O := isT_lt rfl
theorem isT_l {xs : List D} : rIsiTs (.lst xs) [.ty "list", .ty "tuple"] O Q = Q (.bl true) O := isT_lt rfl
theorem isT_r {xs : List D} (h : O a = some (.lst xs)) : rIsiTs (.ref a) [.ty "list", .ty "tuple"] O Q = Q (.bl true) O := by
  have e : tyNm O (.ref a) = "list" := by simp only [tyNm, h]
  rw [isT_lt (by rw [e]; rfl), e]; rfl
end
/-! ### an owned list that a call tells, frozen at once -/
section
variable {X : Cx} {e : Expr} {fe : FE}
def rFrz (d : D) (O : Ow) (Q : VD) : Prop := match d with
  | .ref a => match O a with
    | some (.lst ds) => Q (.lst ds) (delO O a)
    | _ => False
  | _ => False
def fFrz (fe : FE) : FE := fun ρ O Q => fe ρ O fun d O1 => rFrz d O1 Q
theorem de_frz (he : DE M X e fe) : DE M X e (fFrz fe) := peMono he fun σ H Q h => by
  obtain ⟨F, O, P, ρ, R, g, en, q, po⟩ := h
  refine ⟨F, O, P, ρ, _, g, en, q, fun d O1 F1 H1 v q1 s1 g1 r1 => ?_⟩
  unfold rFrz at q1
  split at q1 <;> first | exact q1.elim | skip
  rename_i a
  split at q1 <;> first | exact q1.elim | skip
  rename_i ds e
  simp only [Rep] at r1
  subst r1
  obtain ⟨F2, s2, g2, r2⟩ := g1.freeze e
  exact po _ _ F2 H1 _ q1 (s1.trans s2) g2 r2
theorem ap_fFrz (fe : FE) {ρ : DEnv} {O : Ow} {Q : VD} : fFrz fe ρ O Q = (fe ρ O fun d O1 => rFrz d O1 Q) := rfl
theorem rFrz_u {p : Addr} {ds : List D} {O : Ow} {Q : VD} (h : O p = none) : rFrz (.ref p) (updO O p (.lst ds)) Q = Q (.lst ds) O := by
  simp only [rFrz, updO_same, delO_updO h]
end
end Kf
/-! Dl16: max(xs), max(xs, default=d) of ints. -/
namespace Kf
open PySem PySem.Spec L2
open PyProof.Rows hiding St
section
variable {prog : Program} {w : World} {A : Around} {Rz : Result → Shared → Prop} {it : Addr} {fp wr : List Addr} {n : Nat} {Pv : Nat → Value → Prop} {Sw : Nat → Heap → Prop}
theorem mx_nm : (toString "max" ++ toString ".loop" : String) = "max.loop" := by decide
/-- the rest of max's walk, whatever keywords stand by -/
theorem mx_more (Wk : Walks prog w A.in1 it fp wr n Pv Sw) (bt : Nat → Nat → Bool) (cmp : CmpOf prog w A.in1 .Gt Pv bt) (B : Addr) (hB : B ∉ fp) (kw : List (Str × Value)) :
    ∀ (left j : Nat) (s : Shared) (u : Value) (ep : Nat), n - (j + 1) = left → j + 1 ≤ n → Sw (j + 1) s.heap → Pv (argBest bt j) u →
      s.heap.get? B = some { cls := .type "list", dict := none, data := .seq #[u, u] ep, slots := #[] } →
      (∀ v h' tk, Pv (argBest bt (n - 1)) v → (∀ b o, b ∉ wr → b ≠ B → s.heap.get? b = some o → h'.get? b = some o) → Rz (.ok (.ret v)) { s with heap := h', toks := tk }) →
      codeAny (model prog w) A (.builtin "max.loop" ⟨[.ref it, .none, .ref B], kw⟩) Rz s := by
  have hBw : B ∉ wr := fun h => hB (Wk.sub _ h)
  intro left
  induction left with
  | zero =>
    intro j s u ep e1 hj st pu hb fin
    have en : j + 1 = n := by omega
    refine codeAny_builtin PySem.F.entry_max_loop ?_
    rw [Around.under_plainId PySem.F.plain_max_loop _]
    refine wpAny_bind (wpAny_seqItems hb rfl ?_)
    refine wpAny_bind (wpAny_tryCatch (Wk.done s _ _ (en ▸ st) fun h' tk kp => ?_))
    have hb' := kp B _ hBw hb
    refine wpAny_bind ?_
    refine wpAny_updateSeq hb' rfl (wpAny_bind (wpAny_letGo (wpAny_pure ?_)))
    exact fin u _ tk (by rw [← en]; exact pu) fun b o h1 h2 e => (Heap.get?_update_other _ _ (Ne.symm h2)).trans (kp b o h1 e)
  | succ left ih =>
    intro j s u ep e1 hj st pu hb fin
    have lt : j + 1 < n := by omega
    refine codeAny_builtin PySem.F.entry_max_loop ?_
    rw [Around.under_plainId PySem.F.plain_max_loop _]
    refine wpAny_bind (wpAny_seqItems hb rfl ?_)
    refine wpAny_bind (wpAny_tryCatch (Wk.item (j + 1) s _ _ lt st fun v h' tk pv st' kp => ?_))
    have hb' := kp B _ hBw hb
    show wpAny _ A.in1 (tryCatch (holding [v, v] (richCompare .Gt v u >>= _)) _ >>= _) _ _ _
    refine wpAny_bind (wpAny_tryCatch (wpAny_holding (wpAny_bind (cmp (j + 1) (argBest bt j) v u _ _ _ pv pu ?_))))
    refine wpAny_bind (wpAny_holding (wpAny_truthy_bool ?_)); refine wpAny_bind (wpAny_letGo (wpAny_pure ?_))
    by_cases c : bt (j + 1) (argBest bt j) = true
    · simp only [c, if_true]
      refine wpAny_bind ?_
      refine wpAny_updateSeq hb' rfl (wpAny_bind (wpAny_letGo ?_)); rw [mx_nm]
      refine wpAny_pure ⟨plainId_quiet PySem.F.plain_max_loop _, ih (j + 1) _ v _ (by omega) lt (Wk.frame _ _ _ st' fun b bf o e => (Heap.get?_update_other _ _ (fun h : B = b => hB (by rw [h]; exact bf))).trans e) (by simp only [argBest, c, if_true]; exact pv) (Heap.get?_update_self _ hb' rfl) fun v2 h2 tk2 p2 k2 => ?_⟩
      exact fin v2 h2 tk2 p2 fun b o h1 h3 e => k2 b o h1 h3 ((Heap.get?_update_other _ _ (Ne.symm h3)).trans (kp b o h1 e))
    · simp only [c, if_false, Bool.false_eq_true]
      refine wpAny_bind (wpAny_letGo ?_); rw [mx_nm]
      refine wpAny_pure ⟨plainId_quiet PySem.F.plain_max_loop _, ih (j + 1) _ u ep (by omega) lt st' (by simp only [argBest, c, if_false, Bool.false_eq_true]; exact pu) hb' fun v2 h2 tk2 p2 k2 => ?_⟩
      exact fin v2 h2 tk2 p2 fun b o h1 h3 e => k2 b o h1 h3 (kp b o h1 e)
theorem mx_first (Wk : Walks prog w A.in1 it fp wr n Pv Sw) (bt : Nat → Nat → Bool) (cmp : CmpOf prog w A.in1 .Gt Pv bt) (B : Addr) (hB : B ∉ fp) (kw : List (Str × Value)) (hn : 0 < n) {s : Shared} {ep : Nat} (st : Sw 0 s.heap)
    (hb : s.heap.get? B = some { cls := .type "list", dict := none, data := .seq #[] ep, slots := #[] })
    (fin : ∀ v h' tk, Pv (argBest bt (n - 1)) v → (∀ b o, b ∉ wr → b ≠ B → s.heap.get? b = some o → h'.get? b = some o) → Rz (.ok (.ret v)) { s with heap := h', toks := tk }) :
    codeAny (model prog w) A (.builtin "max.loop" ⟨[.ref it, .none, .ref B], kw⟩) Rz s := by
  have hBw : B ∉ wr := fun h => hB (Wk.sub _ h)
  refine codeAny_builtin PySem.F.entry_max_loop ?_
  rw [Around.under_plainId PySem.F.plain_max_loop _]
  refine wpAny_bind (wpAny_seqItems hb rfl ?_)
  refine wpAny_bind (wpAny_tryCatch (Wk.item 0 s _ _ hn st fun v h' tk pv st' kp => ?_))
  have hb' := kp B _ hBw hb
  show wpAny _ A.in1 (updateSeq B (fun _ => #[v, v]) >>= _) _ _ _
  refine wpAny_bind ?_
  refine wpAny_updateSeq hb' rfl ?_
  rw [mx_nm]
  refine wpAny_pure ⟨plainId_quiet PySem.F.plain_max_loop _, mx_more Wk bt cmp B hB kw _ 0 _ v _ rfl hn (Wk.frame _ _ _ st' fun b bf o e => (Heap.get?_update_other _ _ (fun h : B = b => hB (by rw [h]; exact bf))).trans e) pv (Heap.get?_update_self _ hb' rfl) fun v2 h2 tk2 p2 k2 => ?_⟩
  exact fin v2 h2 tk2 p2 fun b o h1 h3 e => k2 b o h1 h3 ((Heap.get?_update_other _ _ (Ne.symm h3)).trans (kp b o h1 e))
/-- nothing to look at: the default -/
theorem mx_none (Wk : Walks prog w A.in1 it fp wr 0 Pv Sw) (B : Addr) (hB : B ∉ fp) (d : Value) {s : Shared} {ep : Nat} (st : Sw 0 s.heap)
    (hb : s.heap.get? B = some { cls := .type "list", dict := none, data := .seq #[] ep, slots := #[] })
    (fin : ∀ h' tk, (∀ b o, b ∉ wr → s.heap.get? b = some o → h'.get? b = some o) → Rz (.ok (.ret d)) { s with heap := h', toks := tk }) :
    codeAny (model prog w) A (.builtin "max.loop" ⟨[.ref it, .none, .ref B], [(Str.ofString "default", d)]⟩) Rz s := by
  refine codeAny_builtin PySem.F.entry_max_loop ?_
  rw [Around.under_plainId PySem.F.plain_max_loop _]
  refine wpAny_bind (wpAny_seqItems hb rfl ?_)
  refine wpAny_bind (wpAny_tryCatch (Wk.done s _ _ st fun h' tk kp => ?_))
  refine wpAny_bind (wpAny_rule (wpAny_pure ?_))
  exact fin h' tk kp
end
/-- the greatest, or 0 of none -/
def lmx : List Int → Int
  | [] => 0
  | [a] => a
  | a :: b :: r => if lmx (b :: r) > a then lmx (b :: r) else a
theorem lmx_le : ∀ {ns : List Int} {a : Int}, a ∈ ns → a ≤ lmx ns
  | [b], a, h => by rw [List.mem_singleton.mp h]; exact Int.le_refl _
  | b :: c :: r, a, h => by
    unfold lmx
    rcases List.mem_cons.mp h with rfl | h
    · split <;> omega
    · have := lmx_le h
      split <;> omega
theorem lmx_in : ∀ {ns : List Int}, ns ≠ [] → lmx ns ∈ ns
  | [b], _ => by simp [lmx]
  | b :: c :: r, _ => by
    unfold lmx
    split
    · exact List.mem_cons_of_mem _ (lmx_in (by simp))
    · exact List.mem_cons_self
theorem lmx_eq {ns : List Int} {M : Int} (h : M ∈ ns) (hl : ∀ a, a ∈ ns → a ≤ M) : M = lmx ns := by
  have h1 := lmx_le h
  have h2 := hl _ (lmx_in (ns := ns) (fun e => by rw [e] at h; cases h))
  omega
section
variable {prog : Program} {w : World} {A : Around} {E : Value → Shared → Prop} {s : Shared}
theorem args_maxd (a v : Value) : argsOk "max" ⟨[a], [(Str.ofString "default", v)]⟩ := by unfold argsOk; kernel_rfl
/-- max(l, default=d) of ints -/
theorem max_dflt {l : Addr} {vs : List Value} {ns : List Int} {d : Value} {Q : Value → Shared → Prop} (hh : A.handled = none) (hl : s.heap.IsList l vs.toArray) (hi : IntsAre vs ns)
    (fin : ∀ v h' tk, (∀ b o, s.heap.get? b = some o → h'.get? b = some o) → (ns = [] → v = d) → (ns ≠ [] → ∃ t, v = .int (lmx ns) t) → Q v { s with heap := h', toks := tk }) :
    wpAny (model prog w) A (call (.builtin "max") [.ref l] [(Str.ofString "default", d)]) Q E s := by
  obtain ⟨xs, e⟩ := hi.allInts.items
  have hns : ns = xs.toList.map (·.1) := by rw [← hi.numsOf, ← nums_intItems, ← e]
  have hsz : ns.length = xs.size := by rw [hns, List.length_map, Array.length_toList]
  rw [e] at hl
  refine kmk_tree PySem.F.kind_max PySem.F.plain_max PySem.F.entry_max (args_maxd _ _) ?_
  refine wpAny_bind (wpAny_of_eq (show Builtin.Builtins.bindParams "max" ["key", "default"] 0 ⟨[], [(Str.ofString "default", d)]⟩ = pure [none, some d] from rfl) ?_)
  refine wpAny_bind (wpAny_pure ?_)
  refine wpAny_bind (iter_intList hl fun s₂ e2 st hfp hlI => ?_)
  subst e2
  refine wpAny_bind (wpAny_newObj_type ?_)
  have hSf : ∀ b ∈ [s.heap.objs.size, l], b < (s.heap.push { cls := .type "list_iterator", data := .fields #[.ref l, .int 0 0] }).objs.size := hfp
  have Wk := Walks.list (prog := prog) (w := w) (A := A.in1) hh _ l hlI (intItems xs)
  rw [mx_nm]
  refine wpAny_pure ⟨plainId_quiet PySem.F.plain_max_loop _, ?_⟩
  have hB : (s.heap.push { cls := .type "list_iterator", data := .fields #[.ref l, .int 0 0] }).objs.size ∉ [s.heap.objs.size, l] := fun hm => Nat.lt_irrefl _ (hSf _ hm)
  have old : ∀ b o, s.heap.get? b = some o → b ∉ [s.heap.objs.size] ∧ b ≠ (s.heap.push { cls := .type "list_iterator", data := .fields #[.ref l, .int 0 0] }).objs.size ∧ ((s.heap.push { cls := .type "list_iterator", data := .fields #[.ref l, .int 0 0] }).push (seqObj "list" #[] 0)).get? b = some o := fun b o eb => by
    have hlt := Heap.lt_size eb
    refine ⟨fun hm => absurd (List.mem_singleton.mp hm) (Nat.ne_of_lt hlt), ?_, Heap.get?_push_of_some _ (Heap.get?_push_of_some _ eb)⟩
    rw [Heap.size_push]; exact Nat.ne_of_lt (Nat.lt_succ_of_lt hlt)
  have hsi : (intItems xs).size = ns.length := by rw [hsz]; simp [intItems]
  by_cases h0 : ns = []
  · have hz : (intItems xs).size = 0 := by rw [hsi, h0]; rfl
    rw [hz] at Wk
    refine mx_none Wk _ hB d (Wk.frame _ _ _ st fun b _ o e => Heap.get?_push_of_some _ e) (Heap.get?_push_size _ rfl) fun h' tk kp => ?_
    exact fin d h' tk (fun b o eb => kp b o (old b o eb).1 (old b o eb).2.2) (fun _ => rfl) (fun h => absurd h0 h)
  · have hpos : 0 < xs.size := by rw [← hsz]; exact List.length_pos_iff.mpr h0
    refine mx_first Wk _ (CmpOf.ints_gt (numAt xs) (fun _ _ => intItems_at)) _ hB _ (by rw [hsi, hsz]; exact hpos) (Wk.frame _ _ _ st fun b _ o e => Heap.get?_push_of_some _ e) (Heap.get?_push_size _ rfl) fun v h' tk pv kp => ?_
    refine fin v h' tk (fun b o eb => kp b o (old b o eb).1 (old b o eb).2.1 (old b o eb).2.2) (fun h => absurd h h0) fun _ => ?_
    obtain ⟨t, rfl⟩ := intItems_at pv
    rw [hsi, hsz]
    obtain ⟨h1, h2⟩ := argBest_gt (numAt xs) (xs.size - 1)
    refine ⟨t, ?_⟩
    congr 1
    refine lmx_eq ?_ fun a ha => ?_
    · rw [hns, numAt_eq]; exact getD_mem (by rw [List.length_map, Array.length_toList]; omega)
    · rw [hns] at ha
      obtain ⟨j, hj, rfl⟩ := mem_getD ha
      rw [List.length_map, Array.length_toList] at hj
      rw [← numAt_eq]; exact h2 j (by omega)
end
section
variable {X : Cx} {M : MX} {e : Expr} {es : List Expr} {fa : FE} {pos p kpos pos' : Pos}
def rMaxDf (K : PySem.W.Frag) : List V → List V → Hp → VK → Prop := fun vs zs H Q => ∃ (a : Addr) (ns : List Int) (i : Int), vs = [V.ref a] ∧ zs = [V.int i] ∧ SqL K H a (ns.map V.int) ∧ Q (.int (if ns = [] then i else lmx ns)) H
theorem cr_maxDf (hc : X.calm = true) : CallRK X (.builtin "max") [Str.ofString "default"] (rMaxDf X.K) := by
  intro pins s σ H vs zs us ws Q I r rz h
  obtain ⟨a, ns, i, rfl, rfl, hs, q⟩ := h
  obtain rfl := Vals.ref1 r
  obtain ⟨w1, rfl, ⟨t1, rfl⟩⟩ := vals1 rz
  obtain ⟨its, rv, hl, _⟩ := I.list hs
  refine max_dflt (I.ok.hd hc) hl.isList rv.ints fun v h' tk hk h1 h2 => ?_
  refine ⟨.int _, H, I.kept hk, ?_, q⟩
  by_cases h0 : ns = []
  · rw [if_pos h0, h1 h0]; exact ⟨_, rfl⟩
  · rw [if_neg h0]
    obtain ⟨t, rfl⟩ := h2 h0
    exact ⟨_, rfl⟩
/-- max(xs, default=i) -/
def rMaxD (i : Int) (x : D) (O : Ow) (Q : VD) : Prop := match deref O x with
  | .lst ds => match asInts ds with
    | some ns => Q (.int (if ns = [] then i else lmx ns)) O
    | none => False
  | _ => False
def fMaxD (i : Int) (fa : FE) : FE := fun ρ O Q => fa ρ O fun x O1 => rMaxD i x O1 Q
theorem de_maxD {i : Int} {j : Nat} (hc : X.calm = true) (hg : Gl X "max") (hm : X.mg "max" = none) (hv : bootBuiltins "max" = some (.builtin "max")) (ha : DE M X e fa)
    (hs : starEach [e] X.env = (false, eval e X.env) :: starEach [] X.env := by rfl)
    (he : backTo pos (starEach [e] X.env) = (false, eval e X.env) :: backTo pos (starEach [] X.env) := by rfl) (hpl : (backTo pos (starEach [e] X.env)).any (·.1) = false := by rfl) :
    DE M X (.Call (.Name "max" p) [e] [⟨some "default", .Constant (.int i) j pos', kpos⟩] pos) (fMaxD i fa) := by
  refine peMono (pe_callBK (cr_maxDf hc) hg hm hv (pa_cons ha pa_nil hs) (pk_cons pe_int pk_nil) (by decide) (by decide) he hpl) fun σ H Q h => ?_
  obtain ⟨F, O, P, ρ, R, g, en, q, po⟩ := h
  refine ⟨F, O, P, ρ, _, g, en, q, fun x O1 F1 H1 v q1 s1 g1 r1 => ?_⟩
  have h1 := g1.deref r1
  unfold rMaxD at q1
  revert q1 h1
  generalize Kf.deref O1 x = ex
  intro q1 h1
  cases ex <;> first | exact q1.elim | skip
  rename_i ds
  obtain ⟨c, xs, rfl, h1, h2⟩ := h1
  dsimp only at q1
  cases e0 : asInts ds with
  | none => rw [e0] at q1; exact q1.elim
  | some ns =>
    rw [e0] at q1
    rw [of_asInts e0] at h2
    have e3 := h2.ints
    subst e3
    exact ⟨c, ns, i, rfl, rfl, SqL.of h1, (po.more s1).at g1 q1 (by simp only [Rep])⟩
/-- max(xs) -/
def rMaxL : RAD := fun ds O Q => match ds with
  | [x] => match deref O x with
    | .lst ds => match asInts ds with
      | some ns => ns ≠ [] ∧ Q (.int (lmx ns)) O
      | none => False
    | _ => False
  | _ => False
theorem cd_maxL (hc : X.calm = true) : CallD M X (.builtin "max") rMaxL := by
  refine callD_of fun F P H O xs ds R Q g r1 q po => ?_
  match ds, q with
  | [x], q =>
    obtain ⟨v, rfl, r1'⟩ := r1.one'
    have h1 := g.deref r1'
    unfold rMaxL at q
    dsimp only at q
    revert q h1
    generalize Kf.deref O x = ex
    intro q h1
    cases ex <;> first | exact q.elim | skip
    rename_i ds
    obtain ⟨c, xs, rfl, h1, h2⟩ := h1
    dsimp only at q
    cases e : asInts ds with
    | none => rw [e] at q; exact q.elim
    | some ns =>
      rw [e] at q
      rw [of_asInts e] at h2
      have e3 := h2.ints
      subst e3
      exact ⟨_, cr_max hc, c, ns, rfl, SqL.of h1, List.length_pos_iff.mpr q.1, fun m k1 k2 => by
        obtain rfl := lmx_eq k1 k2
        exact po.at g q.2 (by simp only [Rep])⟩
theorem ap_fMaxD (i : Int) (fa : FE) {ρ : DEnv} {O : Ow} {Q : VD} : fMaxD i fa ρ O Q = fa ρ O fun x O1 => rMaxD i x O1 Q := rfl
theorem rMaxD_l {i : Int} {ns : List Int} {O : Ow} {Q : VD} : rMaxD i (.lst (ns.map .int)) O Q = Q (.int (if ns = [] then i else lmx ns)) O := by
  simp only [rMaxD, deref, asInts_map]
theorem rMaxL_l {ns : List Int} {O : Ow} {Q : VD} : rMaxL [.lst (ns.map .int)] O Q = (ns ≠ [] ∧ Q (.int (lmx ns)) O) := by
  simp only [rMaxL, deref, asInts_map]
end
end Kf
/-! Dl17: defs with one default, None; walks along a list, owned or not. -/
namespace Kf
open PySem PySem.Spec L2
open PyProof.Rows hiding St
/-- a def of the text with one default, None -/
structure FnD (K : PySem.W.Frag) (mg : Str → Option Value) (x : Str) (st : Stmt) (ps : List Str) (f : Addr) (fd : FuncData) : Prop where
  F : FunD K x x (defArgs st) (defBody st) (defScope st) [V.non] [] f fd
  m : mg x = some (.ref f)
  b : Binds K fd ps []
  b1 : ∃ ds, Vals [V.non] ds ∧ Binds K fd ps ds
section
variable {X : Cx} {M : MX} {RX : XW} {W : WX} {e : Expr} {es : List Expr} {fr : FA} {k : Nat} {f : Addr} {fd : FuncData} {ps : List Str} {dsp : DSp} {x : Str} {st : Stmt} {p pos : Pos}
theorem de_callXd (N : FnD X.K X.mg x st ps f fd) (G : FnOk X.prog X.w X.K X.mg X.base (L2.CX X.prog X.w) k f fd ps (liftSp X.K dsp)) (hr : Room k X.A) (tk : Takes X W) (hg : Gl X x) (ha : DA (mxw X.K RX W) X (e :: es) fr)
    (hdb : (x == ("__debug__" : Str)) = false := by decide) (he : starEach (e :: es) X.env = (false, eval e X.env) :: starEach es X.env := by rfl) (hpl : (backTo pos (starEach es X.env)).any (·.1) = false := by rfl) :
    DE (mxw X.K RX W) X (.Call (.Name x p) (e :: es) [] pos) (fCallX dsp RX fr) := peMono (pe_callS G hr hg N.m N.F.kp N.b (fun σ => passAt tk σ) ha hdb he hpl) fun σ H Q h => by
  obtain ⟨F, O, P, ρ, R, g, en, q, po⟩ := h
  refine ⟨F, O, P, ρ, _, g, en, q, fun ds O1 F1 H1 vs q1 s1 g1 r1 => ?_⟩
  refine ⟨F1, O1, P, ds, R, _, g1.mt, r1, q1, po.mt g1 s1, fun cls fs O' F' H' dd q2 s2 g2 xd => ?_⟩
  exact (g2.re ((mxw X.K RX W).mono g1.rl s2 (Same.refl _))).wish q2 xd (en.mono (s1.trans s2))
theorem de_callX0d (N : FnD X.K X.mg x st ps f fd) (G : FnOk X.prog X.w X.K X.mg X.base (L2.CX X.prog X.w) k f fd ps (liftSp X.K dsp)) (hr : Room k X.A) (hg : Gl X x) (ha : DA M X (e :: es) fr)
    (hdb : (x == ("__debug__" : Str)) = false := by decide) (he : starEach (e :: es) X.env = (false, eval e X.env) :: starEach es X.env := by rfl) (hpl : (backTo pos (starEach es X.env)).any (·.1) = false := by rfl) :
    DE M X (.Call (.Name x p) (e :: es) [] pos) (fCallX dsp RX0 fr) := peMono (pe_callS (E := WE fun _ _ _ _ => False) G hr hg N.m N.F.kp N.b (fun σ => passAt takes0 σ) ha hdb he hpl) fun σ H Q h => by
  obtain ⟨F, O, P, ρ, R, g, en, q, po⟩ := h
  refine ⟨F, O, P, ρ, _, g, en, q, fun ds O1 F1 H1 vs q1 s1 g1 r1 => ?_⟩
  exact ⟨F1, O1, P, ds, R, _, g1.mt, r1, q1, po.mt g1 s1, fun cls fs O' F' H' dd q2 s2 g2 xd => q2⟩
/-- a call without the last argument -/
def fCallXD (dsp : DSp) (RX : XW) (fr : FA) : FE := fun ρ O Q => fr ρ O fun ds O1 => dsp (ds ++ [.non]) O1 Q fun cls fs O' => RX cls fs ρ O'
theorem rep_non {K : PySem.W.Frag} {F : Hp} : RepAll K F [.non] [V.non] := .one (by simp only [Rep])
theorem de_callXD (N : FnD X.K X.mg x st ps f fd) (G : FnOk X.prog X.w X.K X.mg X.base (L2.CX X.prog X.w) k f fd ps (liftSp X.K dsp)) (hr : Room k X.A) (tk : Takes X W) (hg : Gl X x) (ha : DA (mxw X.K RX W) X (e :: es) fr)
    (hdb : (x == ("__debug__" : Str)) = false := by decide) (he : starEach (e :: es) X.env = (false, eval e X.env) :: starEach es X.env := by rfl) (hpl : (backTo pos (starEach es X.env)).any (·.1) = false := by rfl) :
    DE (mxw X.K RX W) X (.Call (.Name x p) (e :: es) [] pos) (fCallXD dsp RX fr) := by
  obtain ⟨dv, hv, hb⟩ := N.b1
  refine peMono (pe_callSD G hr hg N.m N.F.kp hb hv (fun σ => passAt tk σ) ha hdb he hpl) fun σ H Q h => ?_
  obtain ⟨F, O, P, ρ, R, g, en, q, po⟩ := h
  refine ⟨F, O, P, ρ, _, g, en, q, fun ds O1 F1 H1 vs q1 s1 g1 r1 => ?_⟩
  refine ⟨F1, O1, P, ds ++ [.non], R, _, g1.mt, r1.append rep_non, q1, po.mt g1 s1, fun cls fs O' F' H' dd q2 s2 g2 xd => ?_⟩
  exact (g2.re ((mxw X.K RX W).mono g1.rl s2 (Same.refl _))).wish q2 xd (en.mono (s1.trans s2))
theorem de_callX0D (N : FnD X.K X.mg x st ps f fd) (G : FnOk X.prog X.w X.K X.mg X.base (L2.CX X.prog X.w) k f fd ps (liftSp X.K dsp)) (hr : Room k X.A) (hg : Gl X x) (ha : DA M X (e :: es) fr)
    (hdb : (x == ("__debug__" : Str)) = false := by decide) (he : starEach (e :: es) X.env = (false, eval e X.env) :: starEach es X.env := by rfl) (hpl : (backTo pos (starEach es X.env)).any (·.1) = false := by rfl) :
    DE M X (.Call (.Name x p) (e :: es) [] pos) (fCallXD dsp RX0 fr) := by
  obtain ⟨dv, hv, hb⟩ := N.b1
  refine peMono (pe_callSD (E := WE fun _ _ _ _ => False) G hr hg N.m N.F.kp hb hv (fun σ => passAt takes0 σ) ha hdb he hpl) fun σ H Q h => ?_
  obtain ⟨F, O, P, ρ, R, g, en, q, po⟩ := h
  refine ⟨F, O, P, ρ, _, g, en, q, fun ds O1 F1 H1 vs q1 s1 g1 r1 => ?_⟩
  exact ⟨F1, O1, P, ds ++ [.non], R, _, g1.mt, r1.append rep_non, q1, po.mt g1 s1, fun cls fs O' F' H' dd q2 s2 g2 xd => q2⟩
theorem ap_fCallXD (dsp : DSp) (RX : XW) (fr : FA) {ρ : DEnv} {O : Ow} {Q : VD} : fCallXD dsp RX fr ρ O Q = fr ρ O fun ds O1 => dsp (ds ++ [.non]) O1 Q fun cls fs O' => RX cls fs ρ O' := rfl
end
section
variable {P : Program} {w : World} {K : PySem.W.Frag} {mg : Str → Option Value} {base : Heap}
theorem fn_dXD {x qual : Str} {st : Stmt} {f : Addr} {fd : FuncData} {N ps : List Str} {k : Nat} {dsp : DSp} {g : XW → GS} (F : FunD K x qual (defArgs st) (defBody st) (defScope st) [V.non] [] f fd) (S : FnScope N ps (defScope st)) (len : ∀ ds O R RE, dsp ds O R RE → ds.length = ps.length)
    (hder : ∀ (RX : XW) (W : WX) (cdv : Value) (A : Around) (outer : List Env) (s : Shared) (H : Hp) (E : XK), Takes (cxOf (L2.CX P w) P w K mg base N qual (defScope st) f cdv A outer s H E) W →
      PassesOwn (model (cxOf (L2.CX P w) P w K mg base N qual (defScope st) f cdv A outer s H E).prog (cxOf (L2.CX P w) P w K mg base N qual (defScope st) f cdv A outer s H E).w) (cxOf (L2.CX P w) P w K mg base N qual (defScope st) f cdv A outer s H E).A (cxOf (L2.CX P w) P w K mg base N qual (defScope st) f cdv A outer s H E).env (cxOf (L2.CX P w) P w K mg base N qual (defScope st) f cdv A outer s H E).xe →
      Room k (A.deeper (envOfC qual (defScope st) s.heap.objs.size f cdv)) →
      DSs (mxw K RX W) (cxOf (L2.CX P w) P w K mg base N qual (defScope st) f cdv A outer s H E) (defBody st) (g RX))
    (hread : ∀ ds O R RE, dsp ds O R RE → g (XG RE) { nx := fun _ O' => VG R .non O', rt := VG R } (startD N ds) O) : FnOk P w K mg base (L2.CX P w) (k + 1) f fd ps (liftSp K dsp) := by
  refine F.ok S (fun vs H Q E h => ?_) fun cdv A outer s H vs Q E hr h => ?_
  · obtain ⟨F, O, P, ds, R, RE, g, r, q, _⟩ := h
    rw [← r.length]; exact len ds O R RE q
  · obtain ⟨F, O, P', ds, R, RE, gd, r, q, po, px⟩ := h
    have tk : Takes (cxOf (L2.CX P w) P w K mg base N qual (defScope st) f cdv A outer s H E) (fun cls d _ H => E cls d H) := takes_of rfl rfl rfl rfl
    refine ⟨_, hder (XG RE) _ cdv A outer s H E tk (passes_of rfl) hr, F, O, P', startD N ds, { nx := fun _ O' => VG R .non O', rt := VG R }, gd.re ⟨P', Same.refl _, fun cls fs ρ O' F' H' dd σ q1 s1 g1 xd _ => ?_⟩, ?_, hread ds O R RE q, ⟨fun ρ O' F' H' σ q1 s1 g1 _ => ?_, fun d O' F' H' v q1 s1 g1 r1 => ?_, fun _ _ _ _ _ z => z.elim, fun _ _ _ _ _ z => z.elim⟩⟩
    · obtain ⟨O2, s2, q2⟩ := q1
      exact px cls fs O2 F' H' dd q2 s1 (g1.sub s2) xd
    · unfold startD L2.start
      rw [r.length]
      exact envOk_start _ r
    · obtain ⟨O2, s2, q2⟩ := q1
      exact po .non O2 F' H' .non q2 s1 (g1.mt.sub s2) (by simp only [Rep])
    · obtain ⟨O2, s2, q2⟩ := q1
      exact po d O2 F' H' v q2 s1 (g1.mt.sub s2) r1
end
/-! ### for over a list, owned or not, that stays -/
section
variable {X : Cx} {M : MX} {l tg : Expr} {fl : FE} {pos : Pos}
def forE (x : D) (all : List D) (p : Pat) (gb : GS) (R : DEnds) : List D → DEnv → Ow → Prop
  | [], ρ, O => deref O x = .lst all ∧ R.nx ρ O
  | d :: ds, ρ, O => deref O x = .lst all ∧ patGet (patD p d ρ) fun ρ1 => gb { R with nx := forE x all p gb R ds, ct := forE x all p gb R ds, bk := R.nx } ρ1 O
def asLE (x : D) (O : Ow) (Q : List D → Prop) : Prop := match deref O x with
  | .lst ds => Q ds
  | _ => False
def gForE (fl : FE) (p : Pat) (gb : GS) : GS := fun R ρ O => fl ρ O fun x O1 => asLE x O1 fun ds => forE x ds p gb R ds ρ O1
theorem ap_gForE (fl : FE) (p : Pat) (gb : GS) {R : DEnds} {ρ : DEnv} {O : Ow} : gForE fl p gb R ρ O = fl ρ O fun x O1 => asLE x O1 fun ds => forE x ds p gb R ds ρ O1 := rfl
theorem asLE_l {ds : List D} {O : Ow} {Q : List D → Prop} : asLE (.lst ds) O Q = Q ds := rfl
theorem asLE_r {a : Addr} {ds : List D} {O : Ow} {Q : List D → Prop} (h : O a = some (.lst ds)) : asLE (.ref a) O Q = Q ds := by simp only [asLE, deref, h]
theorem ds_forE {body : List Stmt} {p : Pat} {gb : GS} (hp : PassesOwn (model X.prog X.w) X.A X.env X.xe) (hc : X.calm = true) (hl : DE M X l fl) (hg : DP X tg p) (hb : DSs M X body gb)
    (hs : ∀ x, foldedSetIterable l X.env x = pure x := by intro _; rfl) : DS M X (.For tg l body [] pos) (gForE fl p gb) := psMono (ps_for hp hc (pi_list hl) hg hb hs) fun D σ H h => by
  obtain ⟨F, O, P, ρ, R, g, en, q, po⟩ := h
  refine ⟨F, O, P, ρ, _, g, en, q, fun x O1 F1 H1 v q1 s1 g1 r1 => ?_⟩
  have at' : ∀ {F2 : Hp} {O2 : Ow} {P2 H2 : Hp} {ds : List Kf.D}, Same F1 F2 → Gd M X.K F2 O2 P2 H2 → deref O2 x = .lst ds → ∃ c ws, v = V.ref c ∧ SqL X.K H2 c ws ∧ RepAll X.K F2 ds ws := by
    intro F2 O2 P2 H2 ds s2 g2 e2
    have h1 := g2.deref (r1.mono s2)
    rw [e2] at h1
    obtain ⟨c, xs, e3, h2, h3⟩ := h1
    exact ⟨c, xs, e3, SqL.of h2, h3⟩
  unfold asLE at q1
  split at q1 <;> first | exact q1.elim | skip
  rename_i ds e
  obtain ⟨c, vs, rfl, h1, h2⟩ := at' (Same.refl _) g1 e
  refine ⟨c, rfl, ⟨vs, h1⟩, ?_⟩
  refine ⟨fun i m σ H => ∃ F2 O2 ρ2, i + m = ds.length ∧ Same F1 F2 ∧ Gd M X.K F2 O2 P H ∧ EnvOk X.K F2 ρ2 σ ∧ forE x ds p gb R (ds.drop i) ρ2 O2,
    ⟨ds.length, F1, O1, ρ, by omega, Same.refl _, g1, en.mono s1, by rw [List.drop_zero]; exact q1⟩, fun i m σ2 H2 hW => ?_⟩
  obtain ⟨F2, O2, ρ2, hm, s2, g2, en2, q2⟩ := hW
  by_cases hi : i < ds.length
  · rw [List.drop_eq_getElem_cons hi] at q2
    unfold forE at q2
    obtain ⟨e2, q2⟩ := q2
    obtain ⟨c2, ws, e4, sq, h4⟩ := at' s2 g2 e2
    cases e4
    obtain ⟨w, e3, r3⟩ := h4.get (List.getElem?_eq_getElem hi)
    refine .inr ⟨⟨ws, w, sq, e3⟩, fun σ' H' => ∃ F3 O3 ρ3, Same F1 F3 ∧ Gd M X.K F3 O3 P H' ∧ EnvOk X.K F3 ρ3 σ' ∧ forE x ds p gb R (ds.drop (i + 1)) ρ3 O3, fun σ' H' hN => ?_, fun y H' hyy => ?_⟩
    · obtain ⟨F3, O3, ρ3, s3, g3, en3, q3⟩ := hN
      exact ⟨m - 1, by omega, F3, O3, ρ3, by omega, s3, g3, en3, q3⟩
    · obtain ⟨rfl, hx⟩ := hyy
      have hxx := hx ws sq
      rw [e3] at hxx
      cases hxx
      cases e1 : patD p ds[i] ρ2 with
      | none => rw [e1] at q2; exact q2.elim
      | some ρ3 =>
        rw [e1] at q2
        refine pat_ok g2 p ds[i] _ ρ2 ρ3 σ2 _ e1 r3 en2 fun σ4 en4 _ => ?_
        refine ⟨F2, O2, P, ρ3, _, g2, en4, q2, ⟨fun ρ5 O5 F5 H5 σ5 q5 s5 g5 en5 => ?_, ?_, ?_, fun ρ5 O5 F5 H5 σ5 q5 s5 g5 en5 => ?_⟩⟩
        · exact ⟨F5, O5, ρ5, s2.trans s5, g5, en5, q5⟩
        · exact po.rt.more (s1.trans s2)
        · exact po.nx.more (s1.trans s2)
        · exact ⟨F5, O5, ρ5, s2.trans s5, g5, en5, q5⟩
  · rw [List.drop_eq_nil_of_le (by omega)] at q2
    unfold forE at q2
    obtain ⟨c2, ws, e4, sq, h4⟩ := at' s2 g2 q2.1
    cases e4
    refine .inl ⟨⟨ws, sq, by rw [← h4.length]; omega⟩, ?_⟩
    exact po.nx ρ2 O2 F2 H2 σ2 q2.2 (s1.trans s2) g2 en2
end
end Kf
/-! Dl18: walks along the keys of an owned dict. -/
namespace Kf
open PySem PySem.Spec L2
open PyProof.Rows hiding St
variable {M : MX}
/-! ### [.. for k in d] -/
def lcK (a : Addr) (c : Cell) (p : Pat) (ft : FT) (fe : FE) (ρ : DEnv) : List D → List D → Ow → (List D → Ow → Prop) → Prop
  | [], acc, O, Q => O a = some c ∧ Q acc O
  | d :: ds, acc, O, Q => O a = some c ∧ patGet (patD p d ρ) fun ρ1 => ft ρ1 O fun b O1 => if b = true then fe ρ1 O1 fun e O2 => acc.length < sizeLine ∧ lcK a c p ft fe ρ ds (acc ++ [e]) O2 Q else lcK a c p ft fe ρ ds acc O1 Q
def asDc (o : Option (Option D)) (O : Ow) (N : Addr → List (Key × D) → Prop) : Prop := match o with
  | some (some (.ref a)) => match O a with
    | some (.dic kvs) => N a kvs
    | _ => False
  | _ => False
def keysD (kvs : List (Key × D)) : List D := kvs.map fun kv => keyD kv.1
def fLcK (i : Nat) (p : Pat) (ft : FT) (fe : FE) (vs : List Nat) : FE := fun ρ O Q => asDc ρ[i]? O fun a kvs =>
  ∀ o, lcK a (.dicL kvs o) p ft fe (wipeD ρ vs) (keysD kvs) [] (updO O a (.dicL kvs o)) fun acc O2 => Q (.lst acc) (updO O2 a (.dic kvs))
theorem asDc_of {o : Option (Option D)} {O : Ow} {N : Addr → List (Key × D) → Prop} (q : asDc o O N) : ∃ a kvs, o = some (some (.ref a)) ∧ O a = some (.dic kvs) ∧ N a kvs := by
  unfold asDc at q
  split at q <;> first | exact q.elim | skip
  rename_i a
  split at q <;> first | exact q.elim | skip
  rename_i kvs e
  exact ⟨a, kvs, rfl, e, q⟩
theorem keys_rep {K : PySem.W.Frag} {F : Hp} {kvs : List (Key × D)} {vs : List (Key × V)} (h : KvOk K F kvs vs) {i : Nat} {k : Key} {v : V} (e : vs[i]? = some (k, v)) : (keysD kvs)[i]? = some (keyD k) := by
  have := h.keys
  have e2 : (vs.map (·.1))[i]? = some k := by rw [List.getElem?_map, e]; rfl
  rw [this, List.getElem?_map] at e2
  unfold keysD
  rw [List.getElem?_map]
  cases hk : kvs[i]? with
  | none => rw [hk] at e2; cases e2
  | some kv => rw [hk] at e2; cases e2; rfl
section
variable {X : Cx} {elt tg iter : Expr} {ifs : List Expr} {scope : Scope} {own : List (Str × Nat)} {pos : Pos} {p : Pat} {ft : FT} {fe : FE}
theorem fLcK_lift {vs : List Nat} {K : PySem.W.Frag} {i0 : Nat} (hv : ∀ i ∈ patI p, i ∈ vs) : ∀ σ H Q, liftE M K (fLcK i0 p ft fe vs) σ H Q → tLockE (tLc (iKeys (liftE M K (fVar i0))) (patT K p) (liftT M K ft) (liftE M K fe) vs) σ H Q := fun σ H Q h => by
  obtain ⟨F, O, P, ρ, R, g, en, q, po⟩ := h
  obtain ⟨a, kvs, e0, e, q⟩ := asDc_of q
  obtain ⟨hF, hP, ws, hH, hkv⟩ := g.ow a _ e
  refine ⟨a, .dK ws, hH, trivial, fun od => ?_⟩
  have q := q (.frz od (.dK ws))
  generalize hc : Cell.dicL kvs (.frz od (.dK ws)) = c at q
  have g0 : Gd M K F (updO O a c) P (upd H a (.frz od (.dK ws))) := g.setO e (by rw [← hc]; exact ⟨upd_same, od, ws, rfl, hkv⟩)
  refine ⟨F, updO O a c, P, ρ, fun d O' => d = .ref a ∧ O' = updO O a c, g0, en, by unfold fVar; rw [e0]; exact ⟨rfl, rfl⟩, fun x O1 F1 H1 v q1 s1 g1 r1 => ?_⟩
  obtain ⟨rfl, rfl⟩ := q1
  simp only [Rep] at r1
  subst r1
  have cellH : ∀ {F2 O2 P2 H2}, Gd M K F2 O2 P2 H2 → O2 a = some c → H2 a = some (.frz od (.dK ws)) := fun {F2 O2 P2 H2} g2 e2 => by
    have := (g2.ow a c e2).2.2
    rw [← hc] at this
    exact this.1
  refine ⟨a, od, rfl, .inl ⟨ws, cellH g1 updO_same, fun D hD => ?_⟩⟩
  have hPD := g1.freeP hD
  have hlen : ws.length = (keysD kvs).length := by unfold keysD; rw [List.length_map]; exact (Paired.length hkv).symm
  refine ⟨fun i m H => ∃ F2 O2 acc vacc, i + m = (keysD kvs).length ∧ Same F1 F2 ∧ Gd M K F2 O2 (upd P D (.lst vacc)) H ∧ RepAll K F2 acc vacc ∧ lcK a c p ft fe (wipeD ρ vs) ((keysD kvs).drop i) acc O2 fun acc O2 => R (.lst acc) (updO O2 a (.dic kvs)),
    ⟨(keysD kvs).length, F1, updO O a c, [], [], by omega, Same.refl _, g1.aside hD, .nil, by rw [List.drop_zero]; exact q⟩, fun i m H2 hW => ?_⟩
  obtain ⟨F2, O2, acc, vacc, hm, s2, g2, ra, q2⟩ := hW
  by_cases hi : i < (keysD kvs).length
  · rw [List.drop_eq_getElem_cons hi] at q2
    unfold lcK at q2
    obtain ⟨e2, q2⟩ := q2
    refine .inr ⟨⟨cellH g2 e2, by omega⟩, fun H' => ∃ F3 O3 acc vacc, Same F1 F3 ∧ Gd M K F3 O3 (upd P D (.lst vacc)) H' ∧ RepAll K F3 acc vacc ∧ lcK a c p ft fe (wipeD ρ vs) ((keysD kvs).drop (i + 1)) acc O3 fun acc O2 => R (.lst acc) (updO O2 a (.dic kvs)), fun H' hN => ?_, fun x H' hyy => ?_⟩
    · obtain ⟨F3, O3, acc3, vacc3, s3, g3, r3, q3⟩ := hN
      exact ⟨m - 1, by omega, F3, O3, acc3, vacc3, by omega, s3, g3, r3, q3⟩
    · obtain ⟨rfl, k, v, e3, rfl⟩ := hyy
      have e4 := keys_rep hkv e3
      rw [List.getElem?_eq_getElem hi] at e4
      cases e1 : patD p (keysD kvs)[i] (wipeD ρ vs) with
      | none => rw [e1] at q2; exact q2.elim
      | some ρ3 =>
        rw [e1] at q2
        refine pat_ok g2 p (keysD kvs)[i] _ (wipeD ρ vs) ρ3 (wipe σ vs) _ e1 (by rw [Option.some.inj e4]; exact keyD_rep k) ((en.mono (s1.trans s2)).wipes vs) fun σ4 en4 off => ?_
        refine ⟨wipe_off off hv, F2, O2, upd P D (.lst vacc), ρ3, _, g2, en4, q2, fun b O5 F5 H5 q5 s5 g5 => ?_⟩
        cases b with
        | true =>
          rw [if_pos rfl] at q5 ⊢
          refine ⟨F5, O5, upd P D (.lst vacc), ρ3, _, g5, en4.mono s5, q5, fun y O6 F6 H6 w q6 s6 g6 r6 => ?_⟩
          refine ⟨vacc, (g6.as D _ upd_same).2, by rw [← ra.length]; exact q6.1, F6, O6, acc ++ [y], vacc ++ [w], s2.trans (s5.trans s6), g6.asideSet (M.mono g1.rl (s2.trans (s5.trans s6)) (same_upd hPD)), (ra.mono (s5.trans s6)).append (.one r6), q6.2⟩
        | false =>
          rw [if_neg Bool.false_ne_true] at q5 ⊢
          exact ⟨F5, O5, acc, vacc, s2.trans s5, g5, ra.mono s5, q5⟩
  · rw [List.drop_eq_nil_of_le (by omega)] at q2
    unfold lcK at q2
    obtain ⟨e2, q2⟩ := q2
    refine .inl ⟨⟨cellH g2 e2, by omega⟩, cellH g2 e2, ?_⟩
    have g3 : Gd M K F2 (updO O2 a (.dic kvs)) (upd P D (.lst vacc)) (upd H2 a (.dK ws)) := g2.setO e2 ⟨ws, upd_same, hkv.mono (s1.trans s2)⟩
    obtain ⟨s4, g4⟩ := g3.asideFz hPD (M.mono g1.rl s2 (Same.refl _))
    refine po (.lst acc) _ _ _ _ q2 ((s1.trans s2).trans s4) g4 ?_
    simp only [Rep]
    exact ⟨D, vacc, rfl, upd_same, ra.mono s4⟩
theorem de_lcK {i0 : Nat} {vs : List Nat} (hc : X.calm = true) (hN : X.N.Nodup) (hi : DE M X iter (fVar i0)) (ok : BlkOk X.N X.env.scope scope own)
    (hg : ∀ (s : Shared) (H : Hp) (C : Addr) (cl : List (Str × Addr)) (fp : List Addr), DP (X.blk s H scope (compEnvC scope cl C X.env) fp) tg p) (ht : ∀ (s : Shared) (H : Hp) (C : Addr) (cl : List (Str × Addr)) (fp : List Addr), PTs (X.blk s H scope (compEnvC scope cl C X.env) fp) ifs (liftT M X.K ft))
    (he : ∀ (s : Shared) (H : Hp) (C : Addr) (cl : List (Str × Addr)) (fp : List Addr), DE M (X.blk s H scope (compEnvC scope cl C X.env) fp) elt fe) (hvs : own.map (·.2) = vs := by rfl) (hv : ((patI p).all fun i => vs.contains i) = true := by decide) (hs : ∀ x, foldedSetIterable iter X.env x = pure x := by intro _; rfl) :
    DE M X (.ListComp elt [⟨tg, iter, ifs, 0⟩] scope pos) (fLcK i0 p ft fe vs) := by
  subst hvs
  exact peMono (pe_lock (pe_lc (te := liftE M X.K fe) (g := patT X.K p) hc hN (pi_keys hi) ok hg ht he hs)) (fLcK_lift (pat_in hv))
end
theorem ap_fLcK (i : Nat) (p : Pat) (ft : FT) (fe : FE) (vs : List Nat) {ρ : DEnv} {O : Ow} {Q : VD} : fLcK i p ft fe vs ρ O Q = asDc ρ[i]? O fun a kvs =>
  ∀ o, lcK a (.dicL kvs o) p ft fe (wipeD ρ vs) (keysD kvs) [] (updO O a (.dicL kvs o)) fun acc O2 => Q (.lst acc) (updO O2 a (.dic kvs)) := rfl
theorem asDc_r {a : Addr} {kvs : List (Key × D)} {O : Ow} {N : Addr → List (Key × D) → Prop} (h : O a = some (.dic kvs)) : asDc (some (some (.ref a))) O N = N a kvs := by simp only [asDc, h]
/-- [.. for k in d], nothing owned changed -/
theorem lcK_map {α : Type} {a : Addr} {c : Cell} {p : Pat} {fe : FE} {ρ : DEnv} {O : Ow} (hO : O a = some c) (f g : α → D) : ∀ (xs : List α) (acc : List D) (Q : List D → Ow → Prop), acc.length + xs.length ≤ sizeLine →
    (∀ x ∈ xs, ∀ Q' : VD, Q' (g x) O → patGet (patD p (f x) ρ) fun ρ1 => fe ρ1 O Q') → Q (acc ++ xs.map g) O → lcK a c p fYes fe ρ (xs.map f) acc O Q
  | [], acc, Q, _, _, q => ⟨hO, by simpa using q⟩
  | x :: xs, acc, Q, hl, hs, q => by
    rw [List.length_cons] at hl
    have z := hs x List.mem_cons_self (fun e O2 => acc.length < sizeLine ∧ lcK a c p fYes fe ρ (xs.map f) (acc ++ [e]) O2 Q) ⟨by omega, lcK_map hO f g xs _ Q (by rw [List.length_append, List.length_singleton]; omega) (fun d' hd => hs d' (List.mem_cons_of_mem _ hd)) (by simpa using q)⟩
    rw [List.map_cons]
    unfold lcK
    refine ⟨hO, ?_⟩
    simpa [fYes] using z
theorem lcK_filter {α : Type} {a : Addr} {c : Cell} {p : Pat} {ft : FT} {fe : FE} {ρ : DEnv} {O : Ow} (hO : O a = some c) (b : α → Bool) (f g : α → D) : ∀ (xs : List α) (acc : List D) (Q : List D → Ow → Prop), acc.length + xs.length ≤ sizeLine →
    (∀ x ∈ xs, ∀ (Q1 : VD) (Q2 : Ow → Prop), (b x = true → Q1 (g x) O) → (b x = false → Q2 O) → patGet (patD p (f x) ρ) fun ρ1 => ft ρ1 O fun k O1 => if k = true then fe ρ1 O1 Q1 else Q2 O1) → Q (acc ++ (xs.filter b).map g) O → lcK a c p ft fe ρ (xs.map f) acc O Q
  | [], acc, Q, _, _, q => ⟨hO, by simpa using q⟩
  | x :: xs, acc, Q, hl, hs, q => by
    rw [List.length_cons] at hl
    have z := hs x List.mem_cons_self (fun e O2 => acc.length < sizeLine ∧ lcK a c p ft fe ρ (xs.map f) (acc ++ [e]) O2 Q) (fun O2 => lcK a c p ft fe ρ (xs.map f) acc O2 Q)
      (fun hb => ⟨by omega, lcK_filter hO b f g xs _ Q (by rw [List.length_append, List.length_singleton]; omega) (fun d' hd => hs d' (List.mem_cons_of_mem _ hd)) (by simpa [List.filter_cons, hb] using q)⟩)
      (fun hb => lcK_filter hO b f g xs _ Q (by omega) (fun d' hd => hs d' (List.mem_cons_of_mem _ hd)) (by simpa [List.filter_cons, hb] using q))
    rw [List.map_cons]
    unfold lcK
    exact ⟨hO, z⟩
/-! ### for k in d -/
def endsK (a : Addr) (c : Cell) (kvs : List (Key × D)) (R : DEnds) (N : DEnv → Ow → Prop) : DEnds :=
  { nx := N, ct := N, bk := fun ρ O => O a = some c ∧ R.nx ρ (updO O a (.dic kvs)), rt := fun d O => O a = some c ∧ R.rt d (updO O a (.dic kvs)) }
def forK (a : Addr) (c : Cell) (kvs : List (Key × D)) (p : Pat) (gb : GS) (R : DEnds) : List D → DEnv → Ow → Prop
  | [], ρ, O => O a = some c ∧ R.nx ρ (updO O a (.dic kvs))
  | d :: ds, ρ, O => O a = some c ∧ patGet (patD p d ρ) fun ρ1 => gb (endsK a c kvs R (forK a c kvs p gb R ds)) ρ1 O
def gForK (i : Nat) (p : Pat) (gb : GS) : GS := fun R ρ O => asDc ρ[i]? O fun a kvs => ∀ o, forK a (.dicL kvs o) kvs p gb R (keysD kvs) ρ (updO O a (.dicL kvs o))
theorem ap_gForK (i : Nat) (p : Pat) (gb : GS) {R : DEnds} {ρ : DEnv} {O : Ow} : gForK i p gb R ρ O = asDc ρ[i]? O fun a kvs => ∀ o, forK a (.dicL kvs o) kvs p gb R (keysD kvs) ρ (updO O a (.dicL kvs o)) := rfl
section
variable {X : Cx} {tg iter : Expr} {pos : Pos}
theorem ds_forK {i0 : Nat} {body : List Stmt} {p : Pat} {gb : GS} (hp : PassesOwn (model X.prog X.w) X.A X.env X.xe) (hc : X.calm = true) (hl : DE M X iter (fVar i0)) (hg : DP X tg p) (hb : DSs M X body gb)
    (hs : ∀ x, foldedSetIterable iter X.env x = pure x := by intro _; rfl) : DS M X (.For tg iter body [] pos) (gForK i0 p gb) := psMono (ps_lock (ps_for hp hc (pi_keys hl) hg hb hs)) fun D σ H h => by
  obtain ⟨F, O, P, ρ, R, g, en, q, po⟩ := h
  obtain ⟨a, kvs, e0, e, q⟩ := asDc_of q
  obtain ⟨hF, hP, ws, hH, hkv⟩ := g.ow a _ e
  refine ⟨a, .dK ws, hH, trivial, fun od => ?_⟩
  have q := q (.frz od (.dK ws))
  generalize hcc : Cell.dicL kvs (.frz od (.dK ws)) = c at q
  have g0 : Gd M X.K F (updO O a c) P (upd H a (.frz od (.dK ws))) := g.setO e (by rw [← hcc]; exact ⟨upd_same, od, ws, rfl, hkv⟩)
  refine ⟨F, updO O a c, P, ρ, fun d O' => d = .ref a ∧ O' = updO O a c, g0, en, by unfold fVar; rw [e0]; exact ⟨rfl, rfl⟩, fun x O1 F1 H1 v q1 s1 g1 r1 => ?_⟩
  obtain ⟨rfl, rfl⟩ := q1
  simp only [Rep] at r1
  subst r1
  have cellH : ∀ {F2 O2 P2 H2}, Gd M X.K F2 O2 P2 H2 → O2 a = some c → H2 a = some (.frz od (.dK ws)) := fun {F2 O2 P2 H2} g2 e2 => by
    have := (g2.ow a c e2).2.2
    rw [← hcc] at this
    exact this.1
  have back : ∀ {F2 O2 P2 H2}, Same F F2 → Gd M X.K F2 O2 P2 H2 → O2 a = some c → Gd M X.K F2 (updO O2 a (.dic kvs)) P2 (upd H2 a (.dK ws)) := fun {F2 O2 P2 H2} s g2 e2 => g2.setO e2 ⟨ws, upd_same, hkv.mono s⟩
  refine ⟨a, od, rfl, .inl ⟨ws, cellH g1 updO_same, ?_⟩⟩
  have hlen : ws.length = (keysD kvs).length := by unfold keysD; rw [List.length_map]; exact (Paired.length hkv).symm
  refine ⟨fun i m σ H => ∃ F2 O2 ρ2, i + m = (keysD kvs).length ∧ Same F1 F2 ∧ Gd M X.K F2 O2 P H ∧ EnvOk X.K F2 ρ2 σ ∧ forK a c kvs p gb R ((keysD kvs).drop i) ρ2 O2,
    ⟨(keysD kvs).length, F1, updO O a c, ρ, by omega, Same.refl _, g1, en.mono s1, by rw [List.drop_zero]; exact q⟩, fun i m σ2 H2 hW => ?_⟩
  obtain ⟨F2, O2, ρ2, hm, s2, g2, en2, q2⟩ := hW
  by_cases hi : i < (keysD kvs).length
  · rw [List.drop_eq_getElem_cons hi] at q2
    unfold forK at q2
    obtain ⟨e2, q2⟩ := q2
    refine .inr ⟨⟨cellH g2 e2, by omega⟩, fun σ' H' => ∃ F3 O3 ρ3, Same F1 F3 ∧ Gd M X.K F3 O3 P H' ∧ EnvOk X.K F3 ρ3 σ' ∧ forK a c kvs p gb R ((keysD kvs).drop (i + 1)) ρ3 O3, fun σ' H' hN => ?_, fun x H' hyy => ?_⟩
    · obtain ⟨F3, O3, ρ3, s3, g3, en3, q3⟩ := hN
      exact ⟨m - 1, by omega, F3, O3, ρ3, by omega, s3, g3, en3, q3⟩
    · obtain ⟨rfl, k, v, e3, rfl⟩ := hyy
      have e4 := keys_rep hkv e3
      rw [List.getElem?_eq_getElem hi] at e4
      cases e1 : patD p (keysD kvs)[i] ρ2 with
      | none => rw [e1] at q2; exact q2.elim
      | some ρ3 =>
        rw [e1] at q2
        refine pat_ok g2 p (keysD kvs)[i] _ ρ2 ρ3 σ2 _ e1 (by rw [Option.some.inj e4]; exact keyD_rep k) en2 fun σ4 en4 _ => ?_
        refine ⟨F2, O2, P, ρ3, _, g2, en4, q2, ⟨fun ρ5 O5 F5 H5 σ5 q5 s5 g5 en5 => ?_, fun d5 O5 F5 H5 v5 q5 s5 g5 r5 => ?_, fun ρ5 O5 F5 H5 σ5 q5 s5 g5 en5 => ?_, fun ρ5 O5 F5 H5 σ5 q5 s5 g5 en5 => ?_⟩⟩
        · exact ⟨F5, O5, ρ5, s2.trans s5, g5, en5, q5⟩
        · exact ⟨cellH g5 q5.1, po.rt d5 _ F5 _ v5 q5.2 (s1.trans (s2.trans s5)) (back (s1.trans (s2.trans s5)) g5 q5.1) r5⟩
        · exact ⟨cellH g5 q5.1, po.nx ρ5 _ F5 _ σ5 q5.2 (s1.trans (s2.trans s5)) (back (s1.trans (s2.trans s5)) g5 q5.1) en5⟩
        · exact ⟨F5, O5, ρ5, s2.trans s5, g5, en5, q5⟩
  · rw [List.drop_eq_nil_of_le (by omega)] at q2
    unfold forK at q2
    obtain ⟨e2, q2⟩ := q2
    exact .inl ⟨⟨cellH g2 e2, by omega⟩, cellH g2 e2, po.nx ρ2 _ F2 _ σ2 q2 (s1.trans s2) (back (s1.trans s2) g2 e2) en2⟩
end
end Kf
/-! Dl19: dict(pairs). -/
namespace Kf
open PySem PySem.Spec L2
open PyProof.Rows hiding St
variable {M : MX}
def asPair : D → Option (Key × D)
  | .tup [x, y] => (keyOf x).map fun k => (k, y)
  | _ => none
def asPairs : List D → Option (List (Key × D))
  | [] => some []
  | d :: ds => match asPair d, asPairs ds with
    | some kv, some r => some (kv :: r)
    | _, _ => none
def mergeD (kvs : List (Key × D)) (ls : List (Key × D)) : List (Key × D) := ls.foldl (fun r kv => putD r kv.1 kv.2) kvs
theorem pairs_rep {K : PySem.W.Frag} {F : Hp} : ∀ {ds : List D} {kvs : List (Key × D)} {vs : List V}, asPairs ds = some kvs → RepAll K F ds vs → ∃ (ps : List Addr) (ws : List (Key × V)), vs = ps.map V.ref ∧ Paired (fun p kv => SqT K F p [kV kv.1, kv.2]) ps ws ∧ KvOk K F kvs ws
  | [], kvs, vs, h, r => by
    simp only [asPairs, Option.some.injEq] at h
    simp only [RepAll] at r
    subst h r
    exact ⟨[], [], rfl, .nil, .nil⟩
  | d :: ds, kvs, vs, h, r => by
    simp only [RepAll] at r
    obtain ⟨v, r', rfl, r1, r2⟩ := r
    unfold asPairs at h
    split at h
    · rename_i kv rr e1 e2
      cases h
      obtain ⟨ps, ws, rfl, h1, h2⟩ := pairs_rep e2 r2
      unfold asPair at e1
      split at e1
      · rename_i x y
        cases hk : keyOf x with
        | none => rw [hk] at e1; cases e1
        | some k =>
          rw [hk] at e1
          cases e1
          simp only [Rep, RepAll] at r1
          obtain ⟨a, xs, rfl, hs, v1, _, rfl, rx, v2, _, rfl, ry, rfl⟩ := r1
          rw [keyOf_rep hk rx] at hs
          exact ⟨a :: ps, (k, v2) :: ws, rfl, .cons hs h1, .cons ⟨rfl, ry⟩ h2⟩
      · cases e1
    · cases h
theorem KvOk.merge {K : PySem.W.Frag} {F : Hp} {ls : List (Key × D)} {ws : List (Key × V)} (h : KvOk K F ls ws) : ∀ {kvs : List (Key × D)} {vs : List (Key × V)}, KvOk K F kvs vs → KvOk K F (mergeD kvs ls) (mergeK vs ws) := by
  induction h with
  | nil => intro kvs vs q; simpa [mergeD, mergeK] using q
  | @cons p1 q1 ps qs a _ ih =>
    intro kvs vs q
    have := ih (q.put (k := p1.1) a.2)
    obtain ⟨e, _⟩ := a
    simp only [mergeD, mergeK, List.foldl_cons] at this ⊢
    rw [e] at this ⊢
    exact this
section
variable {X : Cx}
def rDictP : RAD := fun ds O Q => match ds with
  | [x] => match deref O x with
    | .lst xs => match asPairs xs with
      | some kvs => ∀ p, O p = none → Q (.ref p) (updO O p (.dic (mergeD [] kvs)))
      | none => False
    | _ => False
  | _ => False
theorem cd_dictP (hc : X.calm = true) : CallD M X (.type "dict") rDictP := by
  refine callD_of fun F P H O xs ds R Q g r q po => ?_
  unfold rDictP at q
  split at q <;> first | exact q.elim | skip
  rename_i x
  obtain ⟨v, rfl, r1⟩ := r.one'
  have rd := g.deref r1
  split at q <;> first | exact q.elim | skip
  rename_i zs e
  rw [e] at rd
  split at q <;> first | exact q.elim | skip
  rename_i kvs e2
  obtain ⟨a, ws, rfl, hH, hr⟩ := (show ∃ a ws, v = .ref a ∧ H a = some (.lst ws) ∧ RepAll X.K F zs ws from rd)
  obtain ⟨ps, us, rfl, h1, h2⟩ := pairs_rep e2 hr
  refine ⟨_, call_dictP hc, a, ps, us, rfl, SqL.of hH, Paired.mapP h1 fun _ _ z => Same.seqT g.fz z, fun p hp => ?_⟩
  refine po (.ref p) _ F _ _ (q p (g.freeO hp)) (Same.refl _) (g.newO hp ⟨_, upd_same, h2.merge .nil⟩) (by simp only [Rep])
end
theorem rDictP_l {xs : List D} {kvs : List (Key × D)} {O : Ow} {Q : VD} (h : asPairs xs = some kvs) : rDictP [.lst xs] O Q = ∀ p, O p = none → Q (.ref p) (updO O p (.dic (mergeD [] kvs))) := by
  simp only [rDictP, deref, h]
/-! ### xs or ys, of lists -/
section
variable {X : Cx} {a b : Expr} {fa fb : FE} {rest : List Expr} {pos : Pos}
def rOrL (x : D) (O : Ow) (N : List D → Prop) : Prop := match deref O x with
  | .lst ds => N ds
  | _ => False
def fOrL (fa fb : FE) : FE := fun ρ O Q => fa ρ O fun x O1 => rOrL x O1 fun ds => if ds.isEmpty = true then fb ρ O1 Q else Q x O1
theorem de_orL (ha : DE M X a fa) (hb : DE M X (.BoolOp .Or (b :: rest) pos) fb) : DE M X (.BoolOp .Or (a :: b :: rest) pos) (fOrL fa fb) := by
  refine peMono (pe_orT ha hb) fun σ H Q h => ?_
  obtain ⟨F, O, P, ρ, R, g, en, q, po⟩ := h
  refine ⟨F, O, P, ρ, _, g, en, q, fun x O1 F1 H1 v q1 s1 g1 r1 => ?_⟩
  unfold rOrL at q1
  have rd := g1.deref r1
  split at q1 <;> first | exact q1.elim | skip
  rename_i ds e
  rw [e] at rd
  obtain ⟨c, ws, rfl, hH, hr⟩ := (show ∃ c ws, v = .ref c ∧ H1 c = some (.lst ws) ∧ RepAll X.K F1 ds ws from rd)
  have hl := hr.length
  refine ⟨!ws.isEmpty, ?_, ?_⟩
  · exact .inl ⟨ws, SqL.of hH, rfl⟩
  · have e2 : ds.isEmpty = ws.isEmpty := by cases ds <;> cases ws <;> simp at hl ⊢
    rw [e2] at q1
    cases hw : ws.isEmpty with
    | true =>
      rw [hw, if_pos rfl] at q1
      rw [if_neg (by simp)]
      exact ⟨F1, O1, P, ρ, R, g1, en.mono s1, q1, po.more s1⟩
    | false =>
      rw [hw, if_neg (by simp)] at q1
      rw [if_pos (by simp)]
      exact po x O1 F1 H1 _ q1 s1 g1 r1
end
theorem ap_fOrL (fa fb : FE) {ρ : DEnv} {O : Ow} {Q : VD} : fOrL fa fb ρ O Q = fa ρ O fun x O1 => rOrL x O1 fun ds => if ds.isEmpty = true then fb ρ O1 Q else Q x O1 := rfl
theorem rOrL_l {ds : List D} {O : Ow} {N : List D → Prop} : rOrL (.lst ds) O N = N ds := rfl
end Kf
/-! Dl20: tables of the module, unpacking of lists, ranges with a step. -/
namespace Kf
open PySem PySem.Spec L2
open PyProof.Rows hiding St
variable {M : MX}
/-! ### a table of texts by texts, of the module -/
def CDic (K : PySem.W.Frag) (w : World) (mg : Str → Option Value) (x : Str) (tab : List (Str × Str)) : Prop :=
  ∃ d es n, mg x = some (.ref d) ∧ KDict K w d es n ∧ Paired (fun (e : DictEntry) (q : Str × Str) => (∃ t, e.key = .str q.1 t) ∧ ∃ t, e.val = .str q.2 t) es.toList tab
def tabF (tab : List (Str × Str)) (z : Str) : Option Str := (tab.find? fun q => decide (q.1 = z)).map (·.2)
theorem find_tab {es : List DictEntry} {tab : List (Str × Str)} (h : Paired (fun (e : DictEntry) (q : Str × Str) => (∃ t, e.key = .str q.1 t) ∧ ∃ t, e.val = .str q.2 t) es tab) (z : Str) :
    (tabF tab z = none ∧ (es.find? fun e => Value.isStrOf z e.key).map (·.val) = none) ∨ ∃ y t, tabF tab z = some y ∧ (es.find? fun e => Value.isStrOf z e.key).map (·.val) = some (.str y t) := by
  induction h with
  | nil => exact .inl ⟨rfl, rfl⟩
  | @cons e q es qs a _ ih =>
    obtain ⟨⟨t, ek⟩, t2, ev⟩ := a
    have hs : Value.isStrOf z e.key = decide (q.1 = z) := by
      rw [ek]
      show (q.1 == z) = _
      exact str_beq ..
    unfold tabF at ih ⊢
    rw [List.find?_cons, List.find?_cons, hs]
    by_cases c : q.1 = z
    · rw [decide_eq_true c]
      exact .inr ⟨q.2, t2, rfl, by simp [ev]⟩
    · rw [decide_eq_false c]
      exact ih
section
variable {X : Cx} {x : Str} {tab : List (Str × Str)} {e i a : Expr} {fe fi fa : FE} {pos pos' apos cpos p2 : Pos}
theorem CDic.map {d : Addr} {es : Array DictEntry} {n : Nat} (D : KDict X.K X.w d es n) (hp : Paired (fun (e : DictEntry) (q : Str × Str) => (∃ t, e.key = .str q.1 t) ∧ ∃ t, e.val = .str q.2 t) es.toList tab) (z : Str) :
    (tabF tab z = none ∧ findBy Value.isStrOf es z = none) ∨ ∃ y t, tabF tab z = some y ∧ findBy Value.isStrOf es z = some (.str y t) := by
  have h := find_tab hp z
  obtain ⟨l⟩ := es
  unfold findBy
  rw [List.find?_toArray]
  exact h
def tabD (tab : List (Str × Str)) (z : Str) : D := match tabF tab z with
  | some y => .str y
  | none => .non
def asStr (d : D) (N : Str → Prop) : Prop := match d with
  | .str z => N z
  | _ => False
/-- T.get(w) -/
def fKGet (tab : List (Str × Str)) (fe : FE) : FE := fun ρ O Q => fe ρ O fun d O1 => asStr d fun z => Q (tabD tab z) O1
theorem de_kget (c : CDic X.K X.w X.mg x tab) (hg : Gl X x) (he : DE M X e fe) (m : M1 X (.Name x pos) "get" apos e cpos := by exact ⟨by rfl, by rfl, by rfl, by rfl⟩) (hd : (x == ("__debug__" : Str)) = false := by decide) :
    DE M X (.Call (.Attribute (.Name x pos) "get" apos) [e] [] cpos) (fKGet tab fe) := by
  obtain ⟨d, es, n, hm, D, hp⟩ := c
  refine ⟨fun pins s σ H Q I h => ?_⟩
  refine wpAny_Call_method m.base m.few m.line PySem.F.plainAttrs_dict PySem.F.slot_dict_get PySem.F.type_dict_get (thn ((pe_glob (pos := pos) hg hm (v := .ref d) rfl hd).run pins s σ H (fun v H' => v = .ref d ∧ H' = H) I ⟨rfl, rfl⟩) fun u s1 ⟨x1, H1, I1, rx, ex, eH⟩ => ?_)
  subst ex eH
  obtain rfl : u = Value.ref d := rx
  have mo := PySem.W.mapOf_K (prog := X.prog) (w := X.w) I1.kIn D.at_ D.lit
  refine ⟨mo.typeIs, mo.noDict, ?_⟩
  rw [m.trees]
  refine Calls.callWith_builtin rfl (Calls.evalArgs_plain (Calls.spliced_cons (thn (he.run pins s1 σ H1 (fun v H' => ∃ z, v = .str z ∧ Q (match tabF tab z with | some y => .str y | none => .non) H') I1 ?_) fun iv s2 ⟨y, H2, I2, ry, z, ey, q2⟩ => Calls.spliced_nil ?_)))
  · obtain ⟨F, O, P, ρ, R, g, en, q, po⟩ := h
    refine ⟨F, O, P, ρ, _, g, en, q, fun d1 O1 F1 H1 v q1 s1 g1 r1 => ?_⟩
    unfold asStr at q1
    split at q1 <;> first | exact q1.elim | skip
    rename_i z
    simp only [Rep] at r1
    refine ⟨z, r1, ?_⟩
    unfold tabD at q1
    cases hz : tabF tab z with
    | none => rw [hz] at q1; exact po _ O1 F1 H1 _ q1 s1 g1 (by simp only [Rep])
    | some y => rw [hz] at q1; exact po _ O1 F1 H1 _ q1 s1 g1 (by simp only [Rep])
  · subst ey
    obtain ⟨t, rfl⟩ := ry
    have mo2 := PySem.W.mapOf_K (prog := X.prog) (w := X.w) I2.kIn D.at_ D.lit
    refine call_meetsIn PySem.F.slot_dict_get mo2.typeIs PySem.F.entry_dict_get (PySem.F.args_dict_get_2 _ _) (meets_dict_get (strKind X.prog X.w) d (PySem.strKind_is X.prog X.w z t) D.low) ⟨_, mo2, ?_⟩
    rcases CDic.map D hp z with ⟨e1, e2⟩ | ⟨y, t2, e1, e2⟩
    · rw [e1] at q2
      rw [e2]
      exact ⟨.non, H2, I2.tok _, rfl, q2⟩
    · rw [e1] at q2
      rw [e2]
      exact ⟨.str y, H2, I2.tok _, ⟨t2, rfl⟩, q2⟩
theorem ap_fKGet (tab : List (Str × Str)) (fe : FE) {ρ : DEnv} {O : Ow} {Q : VD} : fKGet tab fe ρ O Q = fe ρ O fun d O1 => asStr d fun z => Q (tabD tab z) O1 := rfl
theorem asStr_s {z : Str} {N : Str → Prop} : asStr (.str z) N = N z := rfl
/-- w in T -/
def fKIn (tab : List (Str × Str)) (fa : FE) : FE := fun ρ O Q => fa ρ O fun d O1 => asStr d fun z => Q (.bl (tabF tab z).isSome) O1
theorem fKIn_lift {d : Addr} {es : Array DictEntry} {n : Nat} (hp : Paired (fun (e : DictEntry) (q : Str × Str) => (∃ t, e.key = .str q.1 t) ∧ ∃ t, e.val = .str q.2 t) es.toList tab) (D : KDict X.K X.w d es n) : ∀ σ H Q, liftE M X.K (fKIn tab fa) σ H Q →
    tOp (fun x y H Q => ∃ (z : Str), x = .str z ∧ y = .ref d ∧ Q (.bl (tabF tab z).isSome) H) (liftE M X.K fa) (fun σ H Q => Q (.ref d) H) σ H Q := fun σ H Q h => by
  obtain ⟨F, O, P, ρ, R, g, en, q, po⟩ := h
  refine ⟨F, O, P, ρ, _, g, en, q, fun d1 O1 F1 H1 v q1 s1 g1 r1 => ?_⟩
  unfold asStr at q1
  split at q1 <;> first | exact q1.elim | skip
  rename_i z
  simp only [Rep] at r1
  exact ⟨z, r1, rfl, po _ O1 F1 H1 _ q1 s1 g1 (by simp only [Rep])⟩
theorem op_kin {d : Addr} {es : Array DictEntry} {n : Nat} (hp : Paired (fun (e : DictEntry) (q : Str × Str) => (∃ t, e.key = .str q.1 t) ∧ ∃ t, e.val = .str q.2 t) es.toList tab) (D : KDict X.K X.w d es n) :
    OpR X (compareOp .In) (fun x y H Q => ∃ (z : Str), x = .str z ∧ y = .ref d ∧ Q (.bl (tabF tab z).isSome) H) := by
  intro pins s σ H x y v u Q I rx ry h
  obtain ⟨z, rfl, rfl, q⟩ := h
  obtain ⟨t, rfl⟩ := rx
  cases ry
  refine wpAny_in_of (PySem.strKind_is X.prog X.w z t) D.low (PySem.W.mapOf_K (prog := X.prog) I.kIn D.at_ D.lit) ?_
  rcases CDic.map D hp z with ⟨e1, e2⟩ | ⟨y, t2, e1, e2⟩
  · rw [e2]
    rw [e1] at q
    exact ⟨.bl false, H, I.tok _, rfl, q⟩
  · rw [e2]
    rw [e1] at q
    exact ⟨.bl true, H, I.tok _, rfl, q⟩
theorem de_kin (c : CDic X.K X.w X.mg x tab) (hg : Gl X x) (ha : DE M X a fa) (hm : behindInMarks .In (.Name x p2) = false := by rfl) (hd : (x == ("__debug__" : Str)) = false := by decide) :
    DE M X (.Compare a [.In] [.Name x p2] pos) (fKIn tab fa) := by
  obtain ⟨d, es, n, hmg, D, hp⟩ := c
  exact peMono (pe_cmpR (op_kin hp D) ha (pe_glob hg hmg (v := .ref d) rfl hd) hm) (fKIn_lift hp D)
theorem dt_kin (c : CDic X.K X.w X.mg x tab) (hg : Gl X x) (ha : DE M X a fa) (hm : behindInMarks .In (.Name x p2) = false := by rfl) (hd : (x == ("__debug__" : Str)) = false := by decide) :
    DT M X (.Compare a [.In] [.Name x p2] pos) (fTest (fKIn tab fa)) := by
  obtain ⟨d, es, n, hmg, D, hp⟩ := c
  exact ptMono (pt_cmpR (op_kin hp D) ha (pe_glob hg hmg (v := .ref d) rfl hd) hm) (tTest_lift (fKIn_lift hp D))
theorem ap_fKIn (tab : List (Str × Str)) (fa : FE) {ρ : DEnv} {O : Ow} {Q : VD} : fKIn tab fa ρ O Q = fa ρ O fun d O1 => asStr d fun z => Q (.bl (tabF tab z).isSome) O1 := rfl
/-- T[w] -/
def asSome (o : Option Str) (N : Str → Prop) : Prop := match o with
  | some y => N y
  | none => False
def fKIx (tab : List (Str × Str)) (fi : FE) : FE := fun ρ O Q => fi ρ O fun d O1 => asStr d fun z => asSome (tabF tab z) fun y => Q (.str y) O1
theorem de_kix (c : CDic X.K X.w X.mg x tab) (hg : Gl X x) (hi : DE M X i fi) (hs : NoSl i := by intro _ _; rfl) (hd : (x == ("__debug__" : Str)) = false := by decide) :
    DE M X (.Subscript (.Name x p2) i pos) (fKIx tab fi) := by
  obtain ⟨d, es, n, hmg, D, hp⟩ := c
  refine ⟨fun pins s σ H Q I h => ?_⟩
  refine subD_of PySem.F.slot_dict_getitem.lookup hs (thn ((pe_glob (pos := p2) hg hmg (v := .ref d) rfl hd).run pins s σ H (fun v H' => v = .ref d ∧ H' = H) I ⟨rfl, rfl⟩) fun u s1 ⟨x1, H1, I1, rx, ex, eH⟩ => ?_)
  subst ex eH
  obtain rfl : u = Value.ref d := rx
  refine thn (hi.run pins s1 σ H1 (fun v H' => ∃ z y, v = .str z ∧ tabF tab z = some y ∧ Q (.str y) H') I1 ?_) fun iv s2 ⟨y, H2, I2, ry, z, yy, ey, e1, q2⟩ => ?_
  · obtain ⟨F, O, P, ρ, R, g, en, q, po⟩ := h
    refine ⟨F, O, P, ρ, _, g, en, q, fun d1 O1 F1 H1 v q1 s1 g1 r1 => ?_⟩
    unfold asStr at q1
    split at q1 <;> first | exact q1.elim | skip
    rename_i z
    simp only [Rep] at r1
    cases hz : tabF tab z with
    | none => rw [hz] at q1; exact q1.elim
    | some y => rw [hz] at q1; exact ⟨z, y, r1, hz, po _ O1 F1 H1 _ q1 s1 g1 (by simp only [Rep])⟩
  · subst ey
    obtain ⟨t, rfl⟩ := ry
    have mo2 := PySem.W.mapOf_K (prog := X.prog) (w := X.w) I2.kIn D.at_ D.lit
    refine ⟨mo2.typeIs, ?_⟩
    rcases CDic.map D hp z with ⟨e3, e2⟩ | ⟨y, t2, e3, e2⟩
    · rw [e1] at e3; cases e3
    · rw [e1] at e3
      cases e3
      exact wpAny_getItem_of (PySem.strKind_is X.prog X.w z t) mo2 e2 ⟨.str yy, H2, I2.tok _, ⟨t2, rfl⟩, q2⟩
theorem ap_fKIx (tab : List (Str × Str)) (fi : FE) {ρ : DEnv} {O : Ow} {Q : VD} : fKIx tab fi ρ O Q = fi ρ O fun d O1 => asStr d fun z => asSome (tabF tab z) fun y => Q (.str y) O1 := rfl
end
/-! ### (a, b, ..) = a list -/
section
variable {X : Cx} {e : Expr} {es : List Expr} {fe : FE} {pos p2 : Pos}
def rUnl (d : D) (O : Ow) (N : List D → Prop) : Prop := match deref O d with
  | .lst ds => N ds
  | _ => False
def gAsgL (fe : FE) (ps : List Pat) : GS := fun R ρ O => fe ρ O fun d O1 => rUnl d O1 fun ds => patGet (patDs ps ds ρ) fun ρ' => R.nx ρ' O1
theorem ds_asgL {k : Nat} {ps : List Pat} (hc : X.calm = true) (he : DE M X e fe) (hg : DPs X es ps) (hs : swapsWithSole [.Tuple es k p2] e pos.line X.env = pure false := by rfl) (hw : swappedStores [.Tuple es k p2] e X.env = pure none := by rfl) (h1 : (assignEach [.Tuple es k p2] X.env).map (·.2) = [assign (.Tuple es k p2) X.env] := by rfl)
    (hn : (assignEach es X.env).length = ps.length := by rfl) (hst : (assignEach es X.env).findIdx? (·.1) = none := by rfl) : DS M X (.Assign [.Tuple es k p2] e pos) (gAsgL fe ps) :=
  psMono (ps_asg he (pg_unl hc hg hn hst) hs hw h1) fun D σ H h => by
    obtain ⟨F, O, P, ρ, R, g, en, q, po⟩ := h
    refine ⟨F, O, P, ρ, _, g, en, q, fun d O1 F1 H1 v q1 s1 g1 r1 => ?_⟩
    unfold rUnl at q1
    have rd := g1.deref r1
    split at q1 <;> first | exact q1.elim | skip
    rename_i ds e0
    rw [e0] at rd
    obtain ⟨c, ws, rfl, hH, hr⟩ := (show ∃ c ws, v = .ref c ∧ H1 c = some (.lst ws) ∧ RepAll X.K F1 ds ws from rd)
    cases e1 : patDs ps ds ρ with
    | none => rw [e1] at q1; exact q1.elim
    | some ρ' =>
      rw [e1] at q1
      exact ⟨c, ws, rfl, SqL.of hH, by rw [← hr.length, patDs_length e1], pats_ok g1 ps ds ws ρ ρ' σ _ e1 hr (en.mono s1) fun σ' en' _ => po.nx ρ' O1 F1 H1 σ' q1 s1 g1 en'⟩
theorem ap_gAsgL (fe : FE) (ps : List Pat) {R : DEnds} {ρ : DEnv} {O : Ow} : gAsgL fe ps R ρ O = fe ρ O fun d O1 => rUnl d O1 fun ds => patGet (patDs ps ds ρ) fun ρ' => R.nx ρ' O1 := rfl
theorem rUnl_l {ds : List D} {O : Ow} {N : List D → Prop} : rUnl (.lst ds) O N = N ds := rfl
end
/-! ### range(i, j, c) -/
section
variable {X : Cx} {tg a b c : Expr} {fr : FA} {p pos : Pos}
def rangeC (lo c : Int) (n : Nat) : List D := (List.range n).map fun i => .int (lo + (i : Nat) * c)
theorem itOk_rangeC {K : PySem.W.Frag} {F : Hp} (lo c : Int) (n : Nat) : ItOk M K F (Itc lo c n) (rangeC lo c n) := fun F2 O2 P2 H2 s2 g2 i => by
  refine ⟨fun d e => ?_, fun hi => ?_⟩
  · unfold rangeC at e
    rw [List.getElem?_map] at e
    obtain ⟨j, e1, rfl⟩ := Option.map_eq_some_iff.mp e
    obtain ⟨h1, h2⟩ := List.getElem?_eq_some_iff.mp e1
    rw [List.getElem_range] at h2
    subst h2
    rw [List.length_range] at h1
    refine ⟨h1, fun x H3 hy => ?_⟩
    obtain ⟨rfl, rfl⟩ := hy
    exact ⟨F2, Same.refl _, g2, by simp only [Rep]⟩
  · unfold rangeC at hi
    rw [List.length_map, List.length_range] at hi
    exact hi
def asR3 (ds : List D) (O : Ow) (Q : List D → Ow → Prop) : Prop := match ds with
  | [.int i, .int j, .int c] => ∃ n, RgC i j c n ∧ Q (rangeC i c n) O
  | _ => False
def fiRng3 (fr : FA) : FI := fun ρ O Q => fr ρ O fun ds O1 => asR3 ds O1 Q
theorem di_range3 (hg : Gl X "range") (hm : X.mg "range" = none) (ha : DA M X [a, b, c] fr)
    (hs : starEach [a, b, c] X.env = (false, eval a X.env) :: starEach [b, c] X.env := by rfl) (hpl : (backTo pos (starEach [b, c] X.env)).any (·.1) = false := by rfl) :
    DI M X tg (.Call (.Name "range" p) [a, b, c] [] pos) (fiRng3 fr) := piMono (pi_range3 hg hm ha hs hpl) fun σ H Q h => by
  obtain ⟨F, O, P, ρ, R, g, en, q, po⟩ := h
  refine ⟨F, O, P, ρ, _, g, en, q, fun ds O1 F1 H1 vs q1 s1 g1 r1 => ?_⟩
  unfold asR3 at q1
  split at q1
  · rename_i i j k
    obtain ⟨n, h1, h2⟩ := q1
    simp only [RepAll, Rep] at r1
    obtain ⟨_, _, rfl, rfl, _, _, rfl, rfl, _, _, rfl, rfl, rfl⟩ := r1
    exact ⟨i, j, k, n, rfl, h1, po _ O1 F1 H1 _ h2 s1 g1 (itOk_rangeC _ _ _)⟩
  · exact q1.elim
theorem ap_fiRng3 (fr : FA) {ρ : DEnv} {O : Ow} {Q : List D → Ow → Prop} : fiRng3 fr ρ O Q = fr ρ O fun ds O1 => asR3 ds O1 Q := rfl
theorem asR3_i {i j c : Int} {O : Ow} {Q : List D → Ow → Prop} : asR3 [.int i, .int j, .int c] O Q = ∃ n, RgC i j c n ∧ Q (rangeC i c n) O := rfl
end
/-! ### a text split, the list changes -/
section
variable {X : Cx}
def rSplitO : RMD := fun x ds O Q => match x, ds with
  | .str a, [.str b] => (b.length == 0) = false ∧ a.length + 2 ≤ sizeLine ∧ ∀ p, O p = none → Q (.ref p) (updO O p (.lst ((Txt.split a b).map .str)))
  | _, _ => False
theorem md_splitO : MtD M X "str.split" rSplitO := by
  refine mtD_of fun F P H O x xs dx ds R Q g r1 r2 q po => ?_
  unfold rSplitO at q
  split at q <;> first | exact q.elim | skip
  rename_i a b
  obtain ⟨v, rfl, r2'⟩ := r2.one'
  simp only [Rep] at r1 r2'
  subst r1 r2'
  exact ⟨_, mt_split, a, b, rfl, rfl, q.1, q.2.1, fun p hp => po.lstO g q.2.2 .of_strs hp⟩
theorem rSplitO_s {a b : Str} {O : Ow} {Q : VD} : rSplitO (.str a) [.str b] O Q = ((b.length == 0) = false ∧ a.length + 2 ≤ sizeLine ∧ ∀ p, O p = none → Q (.ref p) (updO O p (.lst ((Txt.split a b).map .str)))) := rfl
end
end Kf
/-! Dl21: enumerate(tuple). -/
namespace PySem
open Sem (wp)
open AutoSeq1 (wpAny_loadPart')
theorem meets_enumT (l : Addr) (items : Array Value) (n : Nat) (dct : Option Addr) (sl : Array (Option Value)) :
    Meets (Builtin.«enumerate.__new__» ⟨[.type "enumerate", .ref l], []⟩) (fun _ R s => s.heap.get? l = some { cls := .type "tuple", dict := dct, data := .seq items n, slots := sl } ∧
      R (.ok (.ret (.ref (s.heap.push { cls := .type "tuple_iterator", data := .fields #[.ref l, .int 0 0] }).objs.size)))
        { s with heap := (s.heap.push { cls := .type "tuple_iterator", data := .fields #[.ref l, .int 0 0] }).push { cls := .type "enumerate", data := .fields #[.none, .bool false, .ref s.heap.objs.size, rawInt 0, .none, .none] } }) :=
  .of_wp fun prog w A R s h => by
    obtain ⟨hp, g, d, tk, os⟩ := s; obtain ⟨hl, h⟩ := h
    have hsub := sub_enumerate
    have hL : Heap.IsTuple (Shared.heap ⟨hp, g, d, tk, os⟩) l items := ⟨_, hl, rfl, n, rfl⟩
    wp_walk using wpAny_loadPart' hl
    refine wpAny_stack_any fun st => wpAny_pure ?_
    split
    · rename_i c _ _ _ _ _
      cases (c == Value.type "enumerate")
      · wp_walk using wpAny_loadPart' hl, wpAny_pyIter_tuple hL
        exact ⟨_, rfl, h⟩
      · wp_walk using wpAny_loadPart' hl, wpAny_pyIter_tuple hL
        exact ⟨_, rfl, h⟩
    · wp_walk using wpAny_loadPart' hl, wpAny_pyIter_tuple hL
      exact ⟨_, rfl, h⟩
theorem call_enumT {prog : Program} {w : World} {A : Around} {E : Value → Shared → Prop} {s : Shared} {l : Addr} {items : Array Value} {Q : Value → Shared → Prop} (hL : s.heap.IsTuple l items)
    (h : ∀ h', IsEnum h' (s.heap.objs.size + 1) s.heap.objs.size 0 .none → h'.IsTupleIter s.heap.objs.size l 0 → h'.objs.size = s.heap.objs.size + 2 →
      (∀ b o, s.heap.get? b = some o → h'.get? b = some o) → Q (.ref (s.heap.objs.size + 1)) { s with heap := h' }) :
    wpAny (model prog w) A (call (.type "enumerate") [.ref l]) Q E s := by
  obtain ⟨⟨c, dct, dt, sl⟩, hl, hc, n, hd⟩ := hL
  replace hc : c = .type "tuple" := hc
  replace hd : dt = .seq items n := hd
  subst hc hd
  refine callType_new F.called_enumerate (by decide) (F.typeCall_enumerate_1 _) (F.newCall_enumerate_1 _) (fun obj => F.args_object_init_2 obj _) F.entry_enumerate_new
    (meets_enumT l items n dct sl) ⟨hl, ?_⟩
  have hz : (s.heap.push { cls := .type "tuple_iterator", data := .fields #[.ref l, .int 0 0] }).objs.size = s.heap.objs.size + 1 := Heap.size_push ..
  show _ ∧ _
  rw [hz]
  have he : IsEnum ((s.heap.push { cls := .type "tuple_iterator", data := .fields #[.ref l, .int 0 0] }).push
      { cls := .type "enumerate", data := .fields #[.none, .bool false, .ref s.heap.objs.size, rawInt 0, .none, .none] }) (s.heap.objs.size + 1) s.heap.objs.size 0 .none := by
    have := Heap.get?_push_size (s.heap.push { cls := .type "tuple_iterator", data := .fields #[.ref l, .int 0 0] })
      (o := { cls := .type "enumerate", data := .fields #[.none, .bool false, .ref s.heap.objs.size, rawInt 0, .none, .none] }) rfl
    rw [hz] at this; exact this
  refine ⟨⟨_, he, rfl⟩, h _ he ⟨_, Heap.get?_push_of_some _ (Heap.get?_push_size _ rfl), rfl, rfl⟩ (by rw [Heap.size_push, hz]) fun b o x => Heap.get?_push_of_some _ (Heap.get?_push_of_some _ x)⟩
theorem enumT_end {prog : Program} {w : World} {A : Around} {E : Value → Shared → Prop} {s : Shared} {e it a : Addr} {i : Nat} {c : Int} {items : Array Value} {old : Value} {Q : Option Value → Shared → Prop} (hh : A.handled = none) (he : IsEnum s.heap e it c old)
    (hit : s.heap.IsTupleIter it a i) (hT : s.heap.IsTuple a items) (hx : items[i]? = none) (hQ : ∀ h', Heap.ExtBut it s.heap h' → Q none { s with heap := h' }) : wpAny (model prog w) A (pyNext (.ref e)) Q E s := by
  have hE : s.TypeIs (.ref e) "enumerate" := ⟨_, he, rfl⟩
  unfold pyNext
  refine wpAny_bind (wpAny_attempt (wpAny_callSpecial?_slot (name := Str.ofString "__next__") hE F.slot_enumerate_next
    (wpAny_call_entry F.slot_enumerate_next hE F.entry_enumerate_next ?_ (F.args_enumerate_next_1 _))))
  show wpAny _ _ (field (.ref e) 2 >>= _) _ _ _
  refine wpAny_bind (wpAny_field he rfl (x := .ref it) rfl ?_)
  refine wpAny_bind (wpAny_nextOf_tuple_end (A := A.in1) hh hit hT hx fun h' x he' hx' => ?_)
  obtain ⟨o, ho, hc⟩ := hx'
  refine wpAny_bind (wpAny_isInstance (T := "StopIteration") (b := true) ⟨o, ho, hc⟩ isSubtype_stop ?_)
  exact wpAny_pure (hQ _ he')
end PySem
namespace Kf
open PySem PySem.Spec L2
open PyProof.Rows hiding St
/-- a tuple that stays, each item in a new pair -/
def IteT (K : PySem.W.Frag) (a : Addr) : It :=
  ⟨fun i H => ∃ (xs : List V) (x : V), SqT K H a xs ∧ xs[i]? = some x, fun i H v H' => ∃ T x, v = .ref T ∧ H T = none ∧ H' = upd H T (.tup [.int (i : Nat), x]) ∧ ∀ xs, SqT K H a xs → xs[i]? = some x, fun i H => ∃ xs : List V, SqT K H a xs ∧ xs.length ≤ i⟩
theorem turn_enumT {P : Program} {w : World} {K : PySem.W.Frag} {elts : List Expr} {kk : Nat} {tpos : Pos} (a e it : Addr) :
    Turn P w K (.Tuple elts kk tpos) (IteT K a) [e, it] e (fun i h => (∃ old, IsEnum h e it ((i : Nat) : Int) old) ∧ h.IsTupleIter it a i ∧ e ≠ it) where
  mem := by simp
  obj := fun i h st b hb => by
    obtain ⟨⟨old, he⟩, ⟨o, ho, hc, hd⟩, _⟩ := st
    have e' : b = e ∨ b = it := by simpa using hb
    rcases e' with z | z
    · rw [z]; exact ⟨_, he, fun v q => nomatch q⟩
    · rw [z]; exact ⟨o, ho, fun v q => by rw [hd] at q; cases q⟩
  keep := fun i h h' st k => let ⟨⟨old, he⟩, hi, hne⟩ := st; ⟨⟨old, k e (by simp) _ he⟩, hi.at fun o q => k it (by simp) o q, hne⟩
  item := by
    intro X hP hw hK hc i pins s σ H E I hf st hg
    subst hP hw hK
    obtain ⟨⟨old, he⟩, hit, hne⟩ := st
    obtain ⟨xs, x, hq, hx⟩ := hg
    obtain ⟨its, rv, p, hz⟩ := I.tuple hq
    obtain ⟨u, hu, ru⟩ := rv.get hx
    have hel : e < s.heap.objs.size := Heap.lt_size he
    have hil : it < s.heap.objs.size := by obtain ⟨_, q, _⟩ := hit; exact Heap.lt_size q
    have hT : s.heap.IsTuple a its.toArray := p
    have hai : a ≠ it := fun z => by
      obtain ⟨o1, e1, c1, _⟩ := hT
      obtain ⟨o2, e2, c2, _⟩ := hit
      rw [z, e2] at e1
      cases e1
      rw [c1] at c2
      exact absurd c2 (by decide)
    have hae : e ≠ a := fun z => by
      obtain ⟨o1, e1, c1, _⟩ := hT
      have he' : s.heap.get? e = _ := he
      rw [z, e1] at he'
      cases he'
      exact absurd (show Value.type "enumerate" = Value.type "tuple" from c1) (by decide)
    have hi : i < its.toArray.size := by
      have := (List.getElem?_eq_some_iff.mp hu).1
      simpa using this
    refine wpAny_pyNext_enum_itemD (Draws.tuple (A := X.A.in1) (I.ok.hd hc) it a hai its.toArray) he ⟨hit, hT⟩ hi hne (by simp [hne, hae]) fun x' h' tk hP ho hit' hT' hsz hk => ?_
    have ex : x' = u := by
      rw [show its.toArray[i]? = its[i]? by simp, hu] at hP
      exact (Option.some.inj hP).symm
    subst ex
    refine ⟨_, rfl, wpAny_letOwnedTupleGo_enum (s := { s with heap := h', toks := tk + 1 }) ho fun h'' he' sb => ?_⟩
    have hT2 : h''.get? s.heap.objs.size = some { cls := .type "tuple", data := .seq #[.int i tk, x'] } := (sb.2 _ (Nat.ne_of_gt hel)).trans hT'
    have new : ObjOk X.prog X.w (upd H s.heap.objs.size (.tup [.int (i : Nat), x])) h'' s.heap.objs.size (.tup [.int (i : Nat), x]) :=
      ⟨by show 2 ≤ sizeLine; decide, [.int i tk, x'], .cons ⟨_, rfl⟩ (.cons ru .nil), ⟨_, hT2, rfl, _, rfl⟩⟩
    have I1 : Inv X pins σ (upd H s.heap.objs.size (.tup [.int (i : Nat), x])) { s with heap := h'', toks := tk + 1 } :=
      I.turnedNew (ch := [e, it]) (fun b ob hb q => (sb.2 b (fun z => hb (by simp [z]))).trans (hk b ob (fun z => hb (by simp [z])) (fun z => hb (by simp [z])) q)) hf (Nat.le_refl _) new
    refine ⟨.ref s.heap.objs.size, _, I1, rfl, ⟨_, x, rfl, I.hok.fresh (Nat.le_refl _), rfl, fun ys hy => by rw [I.tuple_inj hy hq]; exact hx⟩, ⟨⟨x', ?_⟩, hit'.1.at fun o q => (sb.2 it (Ne.symm hne)).trans q, hne⟩, fun b hb => ?_⟩
    · have e1 : ((i + 1 : Nat) : Int) = (i : Int) + 1 := by omega
      rw [e1]; exact he'
    · have hb' : b < s.heap.objs.size := by
        have e' : b = e ∨ b = it := by simpa using hb
        rcases e' with z | z
        · rw [z]; exact hel
        · rw [z]; exact hil
      rw [upd_ne (Nat.ne_of_lt hb')]
      exact (hf b hb).1
  done := by
    intro X hP hw hK hc i pins s σ H E I hf st hg
    subst hP hw hK
    obtain ⟨⟨old, he⟩, hit, hne⟩ := st
    obtain ⟨xs, hq, hx⟩ := hg
    obtain ⟨its, rv, p, hz⟩ := I.tuple hq
    obtain ⟨f0, f1, f2, f3, f4, f5⟩ := hf it (by simp)
    have hl := rv.length
    have hT : s.heap.IsTuple a its.toArray := p
    exact enumT_end (I.ok.hd hc) he hit hT (by simp; omega) fun h' eb => ⟨rfl, I.turned (t' := s.toks) (fun b o hb q => eb b o hb q) f0 f1 f3 f4 f5⟩
  self := fun A i s Q E st h => let ⟨⟨_, he⟩, _⟩ := st; wpAny_pyIter_enum he h
def iEnumT (K : PySem.W.Frag) (ta : TA) : TI := fun σ H R => ta σ H fun vs H1 => ∃ a xs, vs = [.ref a] ∧ SqT K H1 a xs ∧ R (IteT K a) H1
theorem pi_enumT {X : Cx} {e : Expr} {ta : TA} {p pos tpos : Pos} {elts : List Expr} {kk : Nat} (hg : Gl X "enumerate") (hm : X.mg "enumerate" = none) (ha : PA X [e] ta) (hs : starEach [e] X.env = [(false, eval e X.env)] := by rfl) :
    PI X (.Tuple elts kk tpos) (.Call (.Name "enumerate" p) [e] [] pos) (iEnumT X.K ta) := by
  refine ⟨fun pins s σ H R I h => ?_⟩
  refine Call_ (ld_blt I hg hm boot_enumerate (PyProof.Rows.callWith_type1 (thn (ha.run pos pins s σ H _ I h) fun us s1 ⟨vs, H1, I1, r1, q1⟩ => ?_) hs rfl))
  obtain ⟨a, xs, ex, hq, q⟩ := q1
  subst ex
  cases r1 with
  | cons r rr =>
    cases rr
    cases r
    obtain ⟨its, rv, p', hz⟩ := I1.tuple hq
    refine call_enumT (show s1.heap.IsTuple a its.toArray from p') fun h' he hit hsz hk => wpAny_pyIter_enum he ?_
    have I2 : Inv X pins σ H1 { s1 with heap := h' } := I1.kept (t' := s1.toks) hk
    refine ⟨s1.heap.objs.size + 1, [s1.heap.objs.size + 1, s1.heap.objs.size], _, _, H1, rfl, I2, turn_enumT a (s1.heap.objs.size + 1) s1.heap.objs.size, ⟨⟨.none, he⟩, hit, Nat.succ_ne_self _⟩, fun b hb => ?_, q⟩
    have e' : b = s1.heap.objs.size + 1 ∨ b = s1.heap.objs.size := by simpa using hb
    have hle : s1.heap.objs.size ≤ b := by
      rcases e' with z | z
      · rw [z]; exact Nat.le_add_right _ _
      · rw [z]; exact Nat.le_refl _
    exact I1.fpOk hle (I1.hok.fresh hle)
def asT1 (ds : List D) (O : Ow) (Q : List D → Ow → Prop) : Prop := match ds with
  | [.tup ds] => Q ds O
  | _ => False
def fiEnumT (fr : FA) : FI := fun ρ O Q => fr ρ O fun ds O1 => asT1 ds O1 fun ds O2 => Q (enumD ds) O2
section
variable {M : MX} {X : Cx} {fr : FA} {pos : Pos}
theorem di_enumT {e : Expr} {p tpos : Pos} {elts : List Expr} {kk : Nat} (hg : Gl X "enumerate") (hm : X.mg "enumerate" = none) (ha : DA M X [e] fr) (hs : starEach [e] X.env = [(false, eval e X.env)] := by rfl) :
    DI M X (.Tuple elts kk tpos) (.Call (.Name "enumerate" p) [e] [] pos) (fiEnumT fr) := piMono (pi_enumT hg hm ha hs) fun σ H Q h => by
  obtain ⟨F, O, P, ρ, R, g, en, q, po⟩ := h
  refine ⟨F, O, P, ρ, _, g, en, q, fun ds O1 F1 H1 vs q1 s1 g1 r1 => ?_⟩
  unfold asT1 at q1
  split at q1
  · rename_i ds
    obtain ⟨v, rfl, r1'⟩ := r1.one'
    simp only [Rep] at r1'
    obtain ⟨a, xs, rfl, h1, h2⟩ := r1'
    refine ⟨a, xs, rfl, Same.seqT g1.fz h1, po _ O1 F1 H1 _ q1 s1 g1 fun F2 O2 P2 H2 s2 g2 i => ⟨fun d e => ?_, fun hi => ?_⟩⟩
    · rw [enumD_get] at e
      obtain ⟨d0, e0, rfl⟩ := Option.map_eq_some_iff.mp e
      have sq : SqT X.K H2 a xs := Same.seqT g2.fz (Same.seqT s2 h1)
      obtain ⟨w, e1, r1⟩ := h2.get e0
      refine ⟨⟨xs, w, sq, e1⟩, fun x H3 hy => ?_⟩
      obtain ⟨T, y, rfl, hT, rfl, hx⟩ := hy
      have hxx := hx xs sq
      rw [e1] at hxx
      cases hxx
      have hF := g2.freeF hT
      refine ⟨upd F2 T (.tup [.int (i : Nat), w]), same_upd hF, g2.new hT, ?_⟩
      simp only [Rep]
      refine ⟨T, _, rfl, .inl (.inl upd_same), .cons (by simp only [Rep]) (.one ((r1.mono s2).mono (same_upd hF)))⟩
    · rw [enumD_length] at hi
      exact ⟨xs, Same.seqT g2.fz (Same.seqT s2 h1), by rw [← h2.length]; exact hi⟩
  · exact q1.elim
end
theorem ap_fiEnumT (fr : FA) {ρ : DEnv} {O : Ow} {Q : (List D → Ow → Prop)} : fiEnumT fr ρ O Q = (fr ρ O fun ds O1 => asT1 ds O1 fun ds O2 => Q (enumD ds) O2) := rfl
theorem asT1_t {ds : List D} {O : Ow} {Q : List D → Ow → Prop} : asT1 [.tup ds] O Q = Q ds O := rfl
end Kf
/-! Dl22: a finer room: one frame for each call. -/
namespace Kf
open PySem PySem.Spec L2
open PyProof.Rows hiding St
structure RoomT (k : Nat) (A : Around) : Prop where
  hd : A.handled = none
  dp : A.depth + k + 5 < recursionLimit
  un : A.units + 5 * k + 200 < cLine
theorem RoomT.deeper {k : Nat} {A : Around} (r : RoomT (k + 1) A) (env : Env) : RoomT k (A.deeper env) :=
  ⟨r.hd, by have := r.dp; show A.depth + 1 + k + 5 < _; omega, by have := r.un; show A.units + 3 + 5 * k + 200 < _; omega⟩
theorem RoomT.depth {k : Nat} {A : Around} (r : RoomT k A) : A.depth < recursionLimit := by have := r.dp; omega
theorem RoomT.u200 {k : Nat} {A : Around} (r : RoomT k A) : A.units + 200 < cLine := by have := r.un; omega
theorem RoomT.to {j k : Nat} {A : Around} (r : RoomT k A) (h : 4 * j ≤ k) : Room j A := ⟨r.hd, by have := r.dp; omega, by have := r.un; omega⟩
theorem RoomT.of {j k : Nat} {A : Around} (r : Room j A) (h : k ≤ 3 * j) : RoomT k A := ⟨r.hd, by have := r.dp; omega, by have := r.un; omega⟩
theorem RoomT.mono {j k : Nat} {A : Around} (r : RoomT k A) (h : j ≤ k) : RoomT j A := ⟨r.hd, by have := r.dp; omega, by have := r.un; omega⟩
/-- a def's promise by the finer room -/
structure FnT (P : Program) (w : World) (K : PySem.W.Frag) (mg : Str → Option Value) (base : Heap) (CX : CXT) (k : Nat) (f : Addr) (fd : FuncData) (ps : List Str) (sp : Sp) : Prop where
  len : ∀ vs H Q E, sp vs H Q E → vs.length = ps.length
  run : ∀ (A : Around) (outer : List Env) (s : Shared) (H : Hp) (args : Args) (us : List Value) (vs : List V) (Q : VK) (E : XK), RoomT k A → Env0 P w K mg base A outer s H → BindsTo s fd args (ps.zip us) → Vals vs us → sp vs H Q E →
    codeAny (model P w) A (.call (.ref f) args) (CR CX outer P w H s Q E) s
section
variable {P : Program} {w : World} {K : PySem.W.Frag} {mg : Str → Option Value} {base : Heap} {CX : CXT} {f : Addr} {fd : FuncData} {ps : List Str} {sp : Sp}
theorem FnT.of {j k : Nat} (F : FnOk P w K mg base CX j f fd ps sp) (h : 4 * j ≤ k) : FnT P w K mg base CX k f fd ps sp :=
  ⟨F.len, fun A outer s H args us vs Q E hr => F.run A outer s H args us vs Q E (hr.to h)⟩
theorem FnT.ok {j k : Nat} (F : FnT P w K mg base CX k f fd ps sp) (h : k ≤ 3 * j) : FnOk P w K mg base CX j f fd ps sp :=
  ⟨F.len, fun A outer s H args us vs Q E hr => F.run A outer s H args us vs Q E (.of hr h)⟩
theorem FnT.mono {j k : Nat} (F : FnT P w K mg base CX j f fd ps sp) (h : j ≤ k) : FnT P w K mg base CX k f fd ps sp :=
  ⟨F.len, fun A outer s H args us vs Q E hr => F.run A outer s H args us vs Q E (hr.mono h)⟩
end
section
variable {X : Cx} {e : Expr} {es : List Expr} {t : TA} {CX : CXT} {k : Nat} {f : Addr} {fd : FuncData} {ps : List Str} {sp : Sp} {E : XK} {x : Str} {p pos : Pos}
theorem runT {pins : List (Addr × Obj)} {σ : L2.St} {H : Hp} {s : Shared} {Q : VK} {us : List Value} {vs : List V} (F : FnT X.prog X.w X.K X.mg X.base CX k f fd ps sp) (hr : RoomT k X.A) (hb : Binds X.K fd ps []) (hx : Passes CX X E)
    (I : Inv X pins σ H s) (r : Vals vs us) (h : sp vs H Q E) : wpAny (model X.prog X.w) X.A (call (.ref f) us) (EP X pins σ Q) X.xe s := by
  have hl : us.length = ps.length := by rw [← r.length]; exact F.len _ _ _ _ h
  have hbs := hb s us I.kIn (by rw [List.append_nil]; exact hl)
  rw [List.append_nil] at hbs
  refine wpAny_call (codeAny_mono (F.run X.A X.stack s H ⟨us, []⟩ us vs Q E hr I.env0 hbs r h) fun r s' hq => ?_)
  cases r with
  | error e => exact hx pins σ H s e s' I hq
  | ok fl =>
    cases fl with
    | ret u => exact I.after hq
    | next => exact False.elim hq
    | brk => exact False.elim hq
    | cont => exact False.elim hq
theorem pe_callT (F : FnT X.prog X.w X.K X.mg X.base CX k f fd ps sp) (hr : RoomT k X.A) (hg : Gl X x) (hm : X.mg x = some (.ref f)) (hk : PySem.W.keepIn X.K (.ref f) = true) (hb : Binds X.K fd ps []) (hx : Passes CX X E)
    (ha : PA X (e :: es) t) (hdb : (x == ("__debug__" : Str)) = false := by decide) (he : starEach (e :: es) X.env = (false, eval e X.env) :: starEach es X.env := by rfl) (hpl : (backTo pos (starEach es X.env)).any (·.1) = false := by rfl) :
    PE X (.Call (.Name x p) (e :: es) [] pos) (fun σ H Q => t σ H fun vs H1 => sp vs H1 Q E) := by
  refine ⟨fun pins s σ H Q I h => ?_⟩
  refine wpAny_Call_Name_kw (ld_glob I hg hm ?_ hdb)
  refine PySem.W.callWith_K (h₀ := X.base) I.ok.mod.kin hk (thn (ha.run pos pins s σ H _ I h) fun us s1 ⟨vs, H1, I1, r, q⟩ => ⟨I1.kIn, ?_⟩) he hpl
  exact runT F hr hb hx I1 r q
end
section
variable {M : MX} {X : Cx} {e : Expr} {es : List Expr} {fr : FA} {k : Nat} {f : Addr} {fd : FuncData} {ps : List Str} {dsp : DSp} {x : Str} {st : Stmt} {p pos : Pos}
theorem de_callNT (N : Fn X.K X.mg x st ps f fd) (G : FnT X.prog X.w X.K X.mg X.base CX0 k f fd ps (liftSp X.K dsp)) (hr : RoomT k X.A) (hg : Gl X x)
    (ha : DA M X (e :: es) fr) (hdb : (x == ("__debug__" : Str)) = false := by decide) (he : starEach (e :: es) X.env = (false, eval e X.env) :: starEach es X.env := by rfl) (hpl : (backTo pos (starEach es X.env)).any (·.1) = false := by rfl) :
    DE M X (.Call (.Name x p) (e :: es) [] pos) (fCall dsp fr) := peMono (pe_callT G hr hg N.m N.F.kp N.b pass0 ha hdb he hpl) fun σ H Q h => by
  obtain ⟨F, O, P, ρ, R, g, en, q, po⟩ := h
  refine ⟨F, O, P, ρ, _, g, en, q, fun ds O1 F1 H1 vs q1 s1 g1 r1 => ?_⟩
  exact ⟨F1, O1, P, ds, R, X0, g1.mt, r1, q1, po.mt g1 s1, fun _ _ _ _ _ _ z => z.elim⟩
end
section
variable {P : Program} {w : World} {K : PySem.W.Frag} {mg : Str → Option Value} {base : Heap}
/-- a def's body by the finer room -/
theorem fnT_of {CX : CXT} {k : Nat} {f : Addr} {name qual : Str} {params : Arguments} {body : List Stmt} {scope : Scope} {dV kV doc pm cdv ct oc : Value} {an od : Option Addr}
    {osl : Array (Option Value)} {N ps : List Str} {sp : Sp} (lk : K.lookup f = some ⟨oc, od, .func (PySem.W.fnOf name qual params body scope dV kV doc pm an cdv ct), osl⟩) (hcd : PySem.W.codeIn K cdv qual = true) (S : FnScope N ps scope)
    (len : ∀ vs H Q E, sp vs H Q E → vs.length = ps.length)
    (hbody : ∀ (A : Around) (outer : List Env) (s : Shared) (H : Hp) (vs : List V) (Q : VK) (E : XK), RoomT k (A.deeper (envOfC qual scope s.heap.objs.size f cdv)) → sp vs H Q E →
      ∃ t, PSs (cxOf CX P w K mg base N qual scope f cdv A outer s H E) body t ∧ t { nx := fun _ H' => Q .non H', rt := Q } (L2.start N vs) H) :
    FnT P w K mg base CX (k + 1) f (PySem.W.fnOf name qual params body scope dV kV doc pm an cdv ct) ps sp := by
  refine ⟨len, fun A outer s H args us vs Q E hr e0 hb r hsp => ?_⟩
  have hl := len _ _ _ _ hsp
  have KX : K.In s.heap := e0.mod.kin.keeps fun b o e => (e0.bs b o e).1
  have lim : s.heap.NoLimit := e0.mod.nolimit.keeps fun b o e => (e0.bs b o e).1
  have hkind : ∀ y ∈ ps.zip us, scope.names.lookup y.1 = some .local ∨ (scope.names.lookup y.1 = some .cell ∧ ((cellsFrom (s.heap.objs.size + 1) scope.names []).lookup y.1).isSome = true) := fun ⟨n, v⟩ hy =>
    (S.par n (List.of_mem_zip hy).1).imp id fun q => ⟨q, PySem.W.cellsFrom_some _ _ _ (.inl q)⟩
  refine codeAny_call_function hr.depth (KX _ _ lk) rfl S.co S.gen rfl (PySem.W.codeRec_of KX hcd) (hb _ _ _ _ ?_)
  refine wpAny_newFunctionEnv_cells S.kind hkind fun env he s1 x => ?_
  subst he
  refine ⟨lim.keeps x.toInCall.keep, codeAny_func ?_⟩
  obtain ⟨t, ht, hq⟩ := hbody A outer s H vs Q E (hr.deeper _) hsp
  have I : Inv (cxOf CX P w K mg base N qual scope f cdv A outer s H E) [] (L2.start N vs) H s1 := inv_start S hr.hd e0 hl r x
  refine wpAny_mono (ht.run [] s1 (L2.start N vs) H _ I hq) (fun fl s' hs => ?_) fun e s' hs => hs
  cases fl with
  | ret u =>
    obtain ⟨v, σ', H', J, rv, q⟩ := hs
    exact ⟨v, H', J.os, J.bare, J.base, J.hok, rv, q⟩
  | next =>
    obtain ⟨σ', H', J, q⟩ := hs
    exact ⟨V.non, H', J.os, J.bare, J.base, J.hok, rfl, q⟩
  | brk =>
    obtain ⟨_, _, _, q⟩ := hs
    exact False.elim q
  | cont =>
    obtain ⟨_, _, _, q⟩ := hs
    exact False.elim q
theorem fn_dT {x qual : Str} {st : Stmt} {f : Addr} {fd : FuncData} {N ps : List Str} {k : Nat} {dsp : DSp} {g : GS} (F : Fun K x qual st f fd) (S : FnScope N ps (defScope st)) (len : ∀ ds O R RE, dsp ds O R RE → ds.length = ps.length)
    (hder : ∀ (cdv : Value) (A : Around) (outer : List Env) (s : Shared) (H : Hp) (E : XK), RoomT k (A.deeper (envOfC qual (defScope st) s.heap.objs.size f cdv)) →
      DSs MT (cxOf CX0 P w K mg base N qual (defScope st) f cdv A outer s H E).nox (defBody st) g)
    (hread : ∀ ds O R RE, dsp ds O R RE → g { nx := fun _ O' => R .non O', rt := R } (startD N ds) O) : FnT P w K mg base CX0 (k + 1) f fd ps (liftSp K dsp) := by
  obtain ⟨oc, od, kV, doc, pm, an, cdv, ct, osl, rfl, lk, hcd⟩ := F.ex
  refine fnT_of lk hcd S (fun vs H Q E h => ?_) fun A outer s H vs Q E hr h => ?_
  · obtain ⟨F, O, P, ds, R, RE, g, r, q, _⟩ := h
    rw [← r.length]; exact len ds O R RE q
  · obtain ⟨F, O, P, ds, R, RE, gd, r, q, po, _⟩ := h
    refine ⟨_, (hder cdv A outer s H E hr).nox, F, O, P, startD N ds, { nx := fun _ O' => R .non O', rt := R }, gd, ?_, hread ds O R RE q, ⟨fun ρ O' F' H' σ q1 s1 g1 _ => ?_, po, fun _ _ _ _ _ z => z.elim, fun _ _ _ _ _ z => z.elim⟩⟩
    · unfold startD L2.start
      rw [r.length]
      exact envOk_start _ r
    · exact po .non O' F' H' .non q1 s1 g1 (by simp only [Rep])
theorem none_leftT {CX : CXT} {f : Addr} {fd : FuncData} {ps : List Str} {dsp : DSp} {k : Nat} (no : ∀ ds O R RE, ¬ dsp ds O R RE) : FnT P w K mg base CX k f fd ps (liftSp K dsp) := FnT.of (none_left (k := 0) no) (Nat.zero_le _)
end
end Kf
/-! Dl23: every second thing of a list, xs[::2], xs[1::2]. -/
namespace Kf
open PySem PySem.Spec L2
open PyProof.Rows hiding St
variable {M : MX}
def ev {α : Type} (l : List α) : List α := (List.range ((l.length + 1) / 2)).filterMap fun k => l[2 * k]?
theorem ev_nil {α : Type} : ev ([] : List α) = [] := by simp [ev]
theorem ev_one {α : Type} (x : α) : ev [x] = [x] := by simp [ev, List.range_succ]
theorem ev_two {α : Type} (x y : α) (r : List α) : ev (x :: y :: r) = x :: ev r := by
  unfold ev
  rw [show ((x :: y :: r).length + 1) / 2 = (r.length + 1) / 2 + 1 by simp only [List.length_cons]; omega, List.range_succ_eq_map, List.filterMap_cons]
  simp only [Nat.mul_zero, List.getElem?_cons_zero, List.filterMap_map]
  rfl
theorem ev_len {α : Type} : ∀ l : List α, (ev l).length = (l.length + 1) / 2
  | [] => by rw [ev_nil]; simp
  | [x] => by rw [ev_one]; simp
  | x :: y :: r => by rw [ev_two, List.length_cons, ev_len r]; simp only [List.length_cons]; omega
theorem ev_paired {α β : Type} {F : α → β → Prop} : ∀ {l : List α} {m : List β}, Paired F l m → Paired F (ev l) (ev m)
  | _, _, .nil => by rw [ev_nil, ev_nil]; exact .nil
  | _, _, .cons h .nil => by rw [ev_one, ev_one]; exact .cons h .nil
  | _, _, .cons h (.cons _ t) => by rw [ev_two, ev_two]; exact .cons h (ev_paired t)
theorem RepAll.ev {K : PySem.W.Frag} {F : Hp} : ∀ (ds : List D) (vs : List V), RepAll K F ds vs → RepAll K F (Kf.ev ds) (Kf.ev vs)
  | [], vs, h => by simp only [RepAll] at h; subst h; rw [ev_nil, ev_nil]; exact .nil
  | [d], vs, h => by
    simp only [RepAll] at h
    obtain ⟨v, r, rfl, h1, rfl⟩ := h
    rw [ev_one, ev_one]; exact .one h1
  | d :: e :: ds, vs, h => by
    simp only [RepAll] at h
    obtain ⟨v, r, rfl, h1, v2, r2, rfl, h2, h3⟩ := h
    rw [ev_two, ev_two]; exact .cons h1 (RepAll.ev ds r2 h3)
theorem pick2_range (items : Array Value) (s : Nat) (hs : s ≤ items.size) : ((sliceRange (s : Int) (items.size : Int) 2).filterMap (items[·]?)).toArray = (ev (items.toList.drop s)).toArray := by
  congr 1
  unfold sliceRange ev
  have e : (if (2 : Int) > 0 then (if (s : Int) < items.size then ((items.size : Int) - s + 2 - 1) / 2 else 0) else (if (s : Int) > items.size then ((s : Int) - items.size - 2 - 1) / (-2) else 0)).toNat = ((items.toList.drop s).length + 1) / 2 := by
    rw [if_pos (by decide)]
    simp only [List.length_drop, Array.length_toList]
    by_cases h : s < items.size
    · rw [if_pos (by omega)]; omega
    · rw [if_neg (by omega)]; omega
  dsimp only
  rw [e, List.filterMap_map]
  refine congrArg (fun f => List.filterMap f _) (funext fun k => ?_)
  show items[((s : Int) + 2 * (k : Int)).toNat]? = (items.toList.drop s)[2 * k]?
  rw [List.getElem?_drop, show ((s : Int) + 2 * (k : Int)).toNat = s + 2 * k by omega, Array.getElem?_toList]
theorem pick2_none (items : Array Value) : slicePick items none none (some 2) = (ev items.toList).toArray := by
  have h := pick2_range items 0 (Nat.zero_le _)
  rw [List.drop_zero] at h
  rw [← h]
  rfl
theorem pick2_one (items : Array Value) : slicePick items (some 1) none (some 2) = (ev (items.toList.drop 1)).toArray := by
  by_cases hz : items.size = 0
  · have e : items = #[] := Array.eq_empty_of_size_eq_zero hz
    subst e
    rfl
  · rw [← pick2_range items 1 (by omega)]
    unfold slicePick
    have e : (sliceBounds (some 1) none (some 2) items.size) = (1, (items.size : Int), 2) := by
      simp only [sliceBounds, Option.getD_some]
      rw [show (if (1 : Int) < 0 then (1 : Int) + items.size else 1) = 1 from rfl]
      simp only [show ((2 : Int) > 0) from by decide, if_true]
      congr 1
      omega
    rw [e]
    rfl
section
variable {X : Cx} {e st lo : Expr} {fa : FE} {te : TE} {tst tlo : TO} {fs fl : FO} {pos p2 : Pos}
theorem pe_slice2 (he : PE X e te) (hs : PO X (some st) tst) : PE X (.Subscript e (.Slice none none (some st) p2) pos) (fun σ H Q => te σ H fun x H1 => tst σ H1 fun o H2 => o = some 2 ∧ ∃ a xs, x = .ref a ∧ SqL X.K H2 a xs ∧ ∀ p, H2 p = none → Q (.ref p) (upd H2 p (.lst (ev xs)))) := by
  refine ⟨fun pins s σ H Q I h => ?_⟩
  refine Subscript_ (thn (he.run pins s σ H _ I h) fun v s1 ⟨x, H1, I1, r1, q1⟩ => ?_)
  refine wpAny_Slice ?_
  rw [evalPart_none]
  refine wpAny_pure (wpAny_pure ?_)
  refine thn (hs.run pins s1 σ H1 _ I1 q1) fun vk s3 ⟨o, H3, I3, pk, q3⟩ => ?_
  obtain ⟨rfl, a, xs, rfl, hx, q⟩ := q3
  cases r1
  have I4 : Inv X pins σ H3 { s3 with heap := s3.heap.push { cls := .type "slice", data := .fields #[.none, .none, vk] } } := I3.kept (t' := s3.toks) fun b ob q => Heap.get?_push_of_some _ q
  obtain ⟨its, r, ht, hz⟩ := I4.list hx
  have hlen := r.length
  refine tail_any (ops := [.ref a, .ref s3.heap.objs.size]) ht.isList.typeIs slot_list_getitem.lookup ?_ (by with_unfolding_all rfl)
  refine wpAny_getItem_list_slice ht.isList (Heap.IsSliceOf.new ..) .none .none pk (by decide) ?_ (by rw [List.size_toArray] <;> omega)
  rw [pick2_none]
  refine ⟨.ref _, _, I4.laid (t' := s3.toks) (o := .lst (ev xs)) (fun b ob q => Heap.get?_push_of_some _ q) (Nat.le_refl _) ?_, rfl, q _ (I4.hok.fresh (Nat.le_refl _))⟩
  refine ⟨by rw [ev_len]; omega, ev its, 0, ev_paired r, Heap.get?_push_size _ rfl⟩
theorem pe_slice2b (he : PE X e te) (hl : PO X (some lo) tlo) (hs : PO X (some st) tst) : PE X (.Subscript e (.Slice (some lo) none (some st) p2) pos) (fun σ H Q => te σ H fun x H1 => tlo σ H1 fun ol H2 => tst σ H2 fun o H3 => ol = some 1 ∧ o = some 2 ∧ ∃ a xs, x = .ref a ∧ SqL X.K H3 a xs ∧ ∀ p, H3 p = none → Q (.ref p) (upd H3 p (.lst (ev (xs.drop 1))))) := by
  refine ⟨fun pins s σ H Q I h => ?_⟩
  refine Subscript_ (thn (he.run pins s σ H _ I h) fun v s1 ⟨x, H1, I1, r1, q1⟩ => ?_)
  refine wpAny_Slice ?_
  refine thn (hl.run pins s1 σ H1 _ I1 q1) fun vl s2 ⟨ol, H2, I2, pl, q2⟩ => ?_
  rw [evalPart_none]
  refine wpAny_pure ?_
  refine thn (hs.run pins s2 σ H2 _ I2 q2) fun vk s3 ⟨o, H3, I3, pk, q3⟩ => ?_
  obtain ⟨rfl, rfl, a, xs, rfl, hx, q⟩ := q3
  cases r1
  have I4 : Inv X pins σ H3 { s3 with heap := s3.heap.push { cls := .type "slice", data := .fields #[vl, .none, vk] } } := I3.kept (t' := s3.toks) fun b ob q => Heap.get?_push_of_some _ q
  obtain ⟨its, r, ht, hz⟩ := I4.list hx
  have hlen := r.length
  refine tail_any (ops := [.ref a, .ref s3.heap.objs.size]) ht.isList.typeIs slot_list_getitem.lookup ?_ (by with_unfolding_all rfl)
  refine wpAny_getItem_list_slice ht.isList (Heap.IsSliceOf.new ..) pl .none pk (by decide) ?_ (by rw [List.size_toArray] <;> omega)
  rw [pick2_one]
  have hd : Vals (xs.drop 1) (its.drop 1) := by
    cases r with
    | nil => exact .nil
    | cons _ t => exact t
  refine ⟨.ref _, _, I4.laid (t' := s3.toks) (o := .lst (ev (xs.drop 1))) (fun b ob q => Heap.get?_push_of_some _ q) (Nat.le_refl _) ?_, rfl, q _ (I4.hok.fresh (Nat.le_refl _))⟩
  refine ⟨by rw [ev_len, List.length_drop]; omega, ev (its.drop 1), 0, ev_paired hd, Heap.get?_push_size _ rfl⟩
def rEvD (n : Nat) (x : D) (o : Option Int) (O : Ow) (Q : VD) : Prop := o = some 2 ∧ match deref O x with
  | .lst xs => Q (.lst (ev (xs.drop n))) O
  | _ => False
def fEv (fa : FE) (fs : FO) : FE := fun ρ O Q => fa ρ O fun x O1 => fs ρ O1 fun o O2 => rEvD 0 x o O2 Q
def fEv1 (fa : FE) (fl fs : FO) : FE := fun ρ O Q => fa ρ O fun x O1 => fl ρ O1 fun ol O2 => fs ρ O2 fun o O3 => ol = some 1 ∧ rEvD 1 x o O3 Q
theorem de_ev (he : DE M X e fa) (hs : DO M X (some st) fs) : DE M X (.Subscript e (.Slice none none (some st) p2) pos) (fEv fa fs) := peMono (pe_slice2 he hs) fun σ H Q h => by
  obtain ⟨F, O, P, ρ, R, g, en, q, po⟩ := h
  refine ⟨F, O, P, ρ, _, g, en, q, fun x O1 F1 H1 v q1 s1 g1 r1 => ?_⟩
  refine ⟨F1, O1, P, ρ, _, g1, en.mono s1, q1, fun o O2 F2 H2 q2 s2 g2 => ?_⟩
  obtain ⟨e, q2⟩ := q2
  refine ⟨e, ?_⟩
  have r2 := r1.mono s2
  have h := g2.deref r2
  revert h q2
  generalize Kf.deref O2 x = y
  intro q2 h
  cases y <;> first | exact q2.elim | skip
  rename_i ds
  obtain ⟨a, xs, rfl, h1, h2⟩ := h
  exact ⟨a, xs, rfl, SqL.of h1, fun p hp => (po.more (s1.trans s2)).lst g2 q2 (RepAll.ev _ _ h2) hp⟩
theorem de_ev1 (he : DE M X e fa) (hl : DO M X (some lo) fl) (hs : DO M X (some st) fs) : DE M X (.Subscript e (.Slice (some lo) none (some st) p2) pos) (fEv1 fa fl fs) := peMono (pe_slice2b he hl hs) fun σ H Q h => by
  obtain ⟨F, O, P, ρ, R, g, en, q, po⟩ := h
  refine ⟨F, O, P, ρ, _, g, en, q, fun x O1 F1 H1 v q1 s1 g1 r1 => ?_⟩
  refine ⟨F1, O1, P, ρ, _, g1, en.mono s1, q1, fun ol O2 F2 H2 q2 s2 g2 => ?_⟩
  refine ⟨F2, O2, P, ρ, _, g2, en.mono (s1.trans s2), q2, fun o O3 F3 H3 q3 s3 g3 => ?_⟩
  obtain ⟨e1, e2, q3⟩ := q3
  refine ⟨e1, e2, ?_⟩
  have r2 := r1.mono (s2.trans s3)
  have h := g3.deref r2
  revert h q3
  generalize Kf.deref O3 x = y
  intro q3 h
  cases y <;> first | exact q3.elim | skip
  rename_i ds
  obtain ⟨a, xs, rfl, h1, h2⟩ := h
  exact ⟨a, xs, rfl, SqL.of h1, fun p hp => (po.more (s1.trans (s2.trans s3))).lst g3 q3 (RepAll.ev _ _ (h2.drop 1)) hp⟩
theorem rEv_l {n : Nat} {xs : List D} {O : Ow} {Q : VD} : rEvD n (.lst xs) (some 2) O Q = Q (.lst (ev (xs.drop n))) O := by simp [rEvD, deref]
theorem ap_fEv {fa : FE} {fs : FO} {ρ : DEnv} {O : Ow} {Q : VD} : fEv fa fs ρ O Q = fa ρ O fun x O1 => fs ρ O1 fun o O2 => rEvD 0 x o O2 Q := rfl
theorem ap_fEv1 {fa : FE} {fl fs : FO} {ρ : DEnv} {O : Ow} {Q : VD} : fEv1 fa fl fs ρ O Q = fa ρ O fun x O1 => fl ρ O1 fun ol O2 => fs ρ O2 fun o O3 => ol = some 1 ∧ rEvD 1 x o O3 Q := rfl
end
end Kf
/-! Dl24: a caught exception kept as a value behind the suite. -/
namespace Kf
open PySem PySem.Spec L2
open PyProof.Rows hiding St
variable {M : MX}
section
variable {X : Cx} {pins : List (Addr × Obj)} {σ : L2.St} {H : Hp} {s : Shared}
/-- a thing of the heap that is not tracked yet, nor was at the start, is tracked from now on -/
theorem Inv.track {a : Addr} {o : HO} {ob : Obj} {vs : Array Value} (I : Inv X pins σ H s) (ha : s.heap.get? a = some ob) (hd : ob.data = .fields vs) (hn : H a = none) (h0 : X.s_0.heap.get? a = none)
    (hp : ∀ p ∈ X.pn ++ pins, p.1 ≠ a) (new : ObjOk X.prog X.w (upd H a o) s.heap a o) : Inv X pins σ (upd H a o) s := by
  have n0 : ∀ {b u}, X.s_0.heap.get? b = some u → b ≠ a := fun e z => by rw [z, h0] at e; cases e
  have nH : ∀ {b u}, H b = some u → b ≠ a := fun e z => by rw [z, hn] at e; cases e
  refine ⟨I.ok, I.os, I.bare, ?_, I.loc, I.cell, ?_, ?_, ?_, ?_, I.len⟩
  · obtain ⟨b1, b2, b3, b4, b5, b6, b7⟩ := I.base
    refine ⟨b1, b2, fun b u e n x => ?_, b4, fun b xs e => ?_, fun b u xs e => ?_, fun b ps e => ?_⟩
    · rw [upd_ne (n0 e)]; exact b3 b u e n x
    · have z := b5 b xs e; rw [upd_ne (nH z)]; exact z
    · have z := b6 b u xs e; rw [upd_ne (nH z)]; exact z
    · obtain ⟨m, z⟩ := b7 b ps e; exact ⟨m, by rw [upd_ne (nH z)]; exact z⟩
  · have ne : X.env.locals ≠ a := fun z => by
      obtain ⟨m, ⟨oL, es, ep, hL, hdL, _⟩, _⟩ := I.loc
      rw [z, ha] at hL; cases hL
      rw [hd] at hdL; cases hdL
    rw [upd_ne ne]; exact I.free
  · intro x c e
    have ne : c ≠ a := fun z => by
      obtain ⟨v, oc, hc, hdc⟩ := I.cell x c e
      rw [z, ha] at hc; cases hc
      rw [hd] at hdc; cases hdc
    rw [upd_ne ne]; exact I.freeC x c e
  · intro p hm
    obtain ⟨k1, k2, k3⟩ := I.pin p hm
    exact ⟨k1, by rw [upd_ne (hp p hm)]; exact k2, k3⟩
  · intro b u e
    by_cases hb : b = a
    · subst hb; rw [upd_same] at e; cases e; exact new
    · rw [upd_ne hb] at e
      refine (I.hok b u e).stay (fun _ _ _ q => q) (fun c q => ?_) fun c xs q => ?_
      · rw [upd_ne (nH q)]; exact q
      · rw [upd_ne (nH q)]; exact q
/-- the exception's object at a -/
def xO (a : Addr) (cls : Value) (d : Option Addr) : HO := .ext fun h => ∃ oe vs, h.get? a = some oe ∧ Zc cls d oe ∧ oe.data = .fields vs
theorem xO_ok {P : Program} {w : World} {H : Hp} {h : Heap} {a : Addr} {cls : Value} {d : Option Addr} {oe : Obj} {vs : Array Value} (e : h.get? a = some oe) (z : Zc cls d oe) (k : oe.data = .fields vs) : ObjOk P w H h a (xO a cls d) :=
  ⟨⟨oe, vs, e, z, k⟩, ⟨oe, e⟩, fun _ _ ⟨o, v, q, r⟩ y => ⟨o, v, y o q, r⟩⟩
theorem xO_is {a : Addr} {cls : Value} {d : Option Addr} : IsX a cls d (xO a cls d) := ⟨_, rfl, fun _ z => z⟩
end
def wKeep (K : PySem.W.Frag) (c : Value) (i : Nat) (ts : Addr → Value → Option Addr → TS) (Wo : WX) (D : Ends) : WX := fun cls d σ H =>
  ∃ b, PySem.W.exmOne K cls c = some b ∧
    (b = true → ∀ a, H a = none → ts a cls d { nx := fun τ H2 => H2 a = none → D.nx (τ.set i none) (upd H2 a (xO a cls d)), rt := D.rt, bk := fun τ H2 => D.bk (τ.set i none) H2, ct := fun τ H2 => D.ct (τ.set i none) H2 } (σ.set i (some (.ref a))) H) ∧
    (b = false → Wo cls d σ H)
section
variable {X : Cx} {x n : Str} {c : Value} {i : Nat} {body suite : List Stmt} {b₀ : Stmt} {np pos pos' : Pos} {tb : WX → TS} {ts : Addr → Value → Option Addr → TS} {Wo : WX}
theorem ps_try_keep (hx : X.ex = []) (stk : X.stack = X.env :: X.outer) (frm : X.env.frame = some X.env.locals) (nd : X.N.Nodup) (at_ : X.N[i]? = some n) (kd : X.env.kindOf n = some .local) (nm : Names X x c) (tk : Takes X Wo)
    (hb : ∀ (W : WX) (pn : List (Addr × Obj)) (xe : Value → Shared → Prop), Takes (X.tr pn xe) W → PassesOwn (model X.prog X.w) X.A X.env xe → PSs (X.tr pn xe) body (tb W))
    (hsu : ∀ (a : Addr) (oe : Obj) (cls : Value) (d : Option Addr) (pn : List (Addr × Obj)), Zc cls d oe → (∃ vs, oe.data = .fields vs) → PSs (X.suite a ((a, oe) :: pn)) (b₀ :: suite) (ts a cls d)) :
    PS X (.Try body [.ExceptHandler (some (.Name x np)) (some n) (b₀ :: suite) pos'] [] [] pos) (fun D σ H => tb (wKeep X.K c i ts Wo D) D σ H) := by
  constructor
  intro pins s σ H D I h
  have xok := I.ok
  have frs_ : X.A.frames = some (X.env :: X.outer) := by rw [xok.frames, stk]
  apply wpAny_Try_except
  have B := hb (wKeep X.K c i ts Wo D) (X.pn ++ pins) (fun e s₁ => wpAny (model X.prog X.w) X.A (noteFrame e X.env) (fun _ s₂ => wpAny (model X.prog X.w) X.A (setFlight e none)
    (fun _ s₃ => wpAny (model X.prog X.w) X.A (handleBy e X.env [.ExceptHandler (some (.Name x np)) (some n) (b₀ :: suite) pos']) (SP X pins D) X.xe s₃) X.xe s₂) X.xe s₁) ?lnd PassesOwn.looking
  case lnd =>
    rintro u t ⟨a, G, tI, pins2, τ, H2, cls, d, rfl, J2, nG, up, sky, fr, os, ag, b, m1, yes, no⟩
    have J := J2.ofTry xok
    rw [stk] at sky
    show wpAny (model X.prog X.w) X.A (noteFrame (.ref a) X.env) _ _ _
    refine Sky.land Zc.steady frs_ frm sky fun g3 F3 U3 => ?_
    have J3 : Inv X pins τ H2 { t with heap := g3 } := J.landed nG F3.1 (up.trans U3) os ag
    obtain ⟨o3, v3, e3, z3, d3⟩ := F3.there
    have offS : a ∉ frs (X.env :: X.outer) := fun q => by
      obtain ⟨_, o', e', nf⟩ := F3.2.2.1.mem q
      rw [e3] at e'; cases e'
      exact nf _ d3
    have offL : a ≠ X.env.locals := fun z => offS (List.mem_filterMap.mpr ⟨X.env, List.mem_cons_self, by rw [frm, z]⟩)
    have offF : a ∉ X.fs := fun q => by
      obtain ⟨e, he, k⟩ := List.mem_filterMap.mp q
      exact offS (List.mem_filterMap.mpr ⟨e, List.mem_cons_of_mem _ he, k⟩)
    have newI : tI.heap.get? a = none := by
      cases e : tI.heap.get? a with
      | none => rfl
      | some o =>
        have k := nG a o e (by rw [stk]; exact offS)
        rw [F3.2.1] at k; cases k
    have new0 : X.s_0.heap.get? a = none := by
      cases e : X.s_0.heap.get? a with
      | none => rfl
      | some o =>
        obtain ⟨o', k⟩ := J.base.there a o e (by rw [hx]; exact fun z => nomatch z)
        rw [newI] at k; cases k
    have newP : ∀ p ∈ X.pn ++ pins, p.1 ≠ a := fun p hp z => by
      have k := (J.pin p hp).1
      rw [z, newI] at k; cases k
    have S3 := J3.suite e3 d3 fr offL offF
    refine wpAny_handleBy_cons (codeAny_handlers_test ?_) (by intro q; cases q)
    have look : PySem.W.Looks (model X.prog X.w) g3 (typeOf (.ref a)) cls := fun A Q E s k q => wpAny_typeOf_ref (k _ _ e3) (by rw [z3.1]; exact q)
    have asked := PySem.W.exm_one (M := model X.prog X.w) J3.kIn look m1
    have named : ∀ {Q E : Value → Shared → Prop}, Q c { t with heap := g3 } → wpAny (model X.prog X.w) (X.A.mark (some (.ref a))) (eval (.Name x np) X.env) Q E { t with heap := g3 } := by
      intro Q E q
      obtain ⟨hg, hd, k | ⟨k, kb, kn⟩⟩ := nm
      · exact ld_glob (X := X.suite a ((a, o3) :: (X.pn ++ pins))) S3 hg k q hd
      · exact ld_blt (X := X.suite a ((a, o3) :: (X.pn ++ pins))) S3 hg k kb q kn hd
    refine named (asked.here ?_)
    cases b with
    | false =>
      show wpAny _ X.A (handleBy (.ref a) X.env []) _ _ _
      apply wpAny_handleBy_nil
      obtain ⟨_, _, _, oe, vs, Tb, oT, ts', he, _, hd, h1, _⟩ := id F3
      unfold PySem.passOn
      refine wpAny_bind (wpAny_field he hd h1 ?_)
      rw [if_neg (show ¬ ((Value.ref Tb == Value.none) = true) from by simp)]
      have out : wpAny (model X.prog X.w) X.A (setFlight (.ref a) X.env.frame) (fun _ s4 => wpAny (model X.prog X.w) X.A (throw (.ref a) : Sem Flow) (SP X pins D) X.xe s4) X.xe { t with heap := g3 } := by
        rw [frm]
        exact HandSPX.setFlight_upZ F3 fun h4 hh4 up4 => wpAny_throw (tk _ _ ⟨a, G, tI, pins, τ, H2, cls, d, rfl, J, nG, (up.trans U3).trans up4, .inr (.inr (by rw [stk]; exact hh4)), fr, os, ag, no rfl⟩)
      first
        | exact wpAny_bind (wpAny_pure (wpAny_bind out))
        | exact wpAny_bind out
    | true =>
      apply codeAny_handlers_suite_as
      refine HandSPX.lands_againZ F3 fun g4 F4 U4 => ?_
      have J4 : Inv X pins τ H2 { t with heap := g4 } := J.landed nG F4.1 ((up.trans U3).trans U4) os ag
      obtain ⟨o4, v4, e4, z4, d4⟩ := F4.there
      have S4 := J4.suite e4 d4 fr offL offF
      refine store_ok (X := X.suite a ((a, o4) :: (X.pn ++ pins))) (v := .ref a) S4 nd at_ (.inl kd) rfl (fun t5 S5 => ?_) (.inr kd)
      refine wpAny_mono ((hsu a o4 cls d (X.pn ++ pins) z4 ⟨_, d4⟩).run [] t5 _ H2 _ S5 (yes rfl a fr)) (fun f t6 hsp => ?_) (fun _ _ z => False.elim z)
      cases f with
      | next =>
        obtain ⟨τ6, H6, S6, q6⟩ := hsp
        obtain ⟨p1, p2, _⟩ := S6.pin (a, o4) (List.mem_append.mpr (.inl List.mem_cons_self))
        have K6 := Inv.track (o := xO a cls d) (S6.unsuite xok) p1 d4 p2 new0 newP (xO_ok p1 z4 d4)
        exact gone_ok K6 nd at_ kd fun t7 K7 => ⟨_, _, K7, q6 p2⟩
      | brk =>
        obtain ⟨τ6, H6, S6, q6⟩ := hsp
        exact gone_ok (S6.unsuite xok) nd at_ kd fun t7 K7 => ⟨_, _, K7, q6⟩
      | cont =>
        obtain ⟨τ6, H6, S6, q6⟩ := hsp
        exact gone_ok (S6.unsuite xok) nd at_ kd fun t7 K7 => ⟨_, _, K7, q6⟩
      | ret u =>
        obtain ⟨v6, τ6, H6, S6, r6, q6⟩ := hsp
        exact gone_ok (S6.unsuite xok) nd at_ kd fun t7 K7 => ⟨_, _, _, K7, r6, q6⟩
  refine wpAny_mono (B.run [] s σ H D (I.toTry _) h) (fun f s1 hsp => ?_) (fun e s1 he => he)
  cases f with
  | next =>
    obtain ⟨τ, H2, J, q⟩ := hsp
    exact wpAny_execs_nil ⟨τ, H2, J.ofTry xok, q⟩
  | brk =>
    obtain ⟨τ, H2, J, q⟩ := hsp
    exact ⟨τ, H2, J.ofTry xok, q⟩
  | cont =>
    obtain ⟨τ, H2, J, q⟩ := hsp
    exact ⟨τ, H2, J.ofTry xok, q⟩
  | ret u =>
    obtain ⟨v, τ, H2, J, r, q⟩ := hsp
    exact ⟨v, τ, H2, J.ofTry xok, r, q⟩
end
/-! ### over data -/
/-- the ends with slot i empty; at the suite's end the exception is kept at a -/
def endsKeep (i : Nat) (a : Addr) (cls : Value) (fs : Option (List (Str × D))) (R : DEnds) : DEnds :=
  { nx := fun ρ O => O a = none → R.nx (ρ.set i none) (updO O a (.exc cls fs)), rt := R.rt, bk := fun ρ O => R.bk (ρ.set i none) O, ct := fun ρ O => R.ct (ρ.set i none) O }
def xKp (K : PySem.W.Frag) (c : Value) (i : Nat) (gs : Addr → Value → Option (List (Str × D)) → GS) (RXo : XW) (R : DEnds) : XW := fun cls fs ρ O => ∃ b, PySem.W.exmOne K cls c = some b ∧
  (b = true → ∀ a, O a = none → gs a cls fs (endsKeep i a cls fs R) (ρ.set i (some (.ref a))) O) ∧ (b = false → RXo cls fs ρ O)
/-- try: .. except C as n: .. where the suite keeps what n is -/
def gTryKp (K : PySem.W.Frag) (c : Value) (i : Nat) (gb : XW → GS) (gs : Addr → Value → Option (List (Str × D)) → GS) (RXo : XW) : GS := fun R ρ O => gb (xKp K c i gs RXo R) R ρ O
section
variable {X : Cx} {x n : Str} {c : Value} {i : Nat} {body suite : List Stmt} {b₀ : Stmt} {np pos pos' : Pos} {gb : XW → GS} {gs : Addr → Value → Option (List (Str × D)) → GS} {RXo : XW} {Wo : WX}
theorem ds_try_keep (hN : X.N.Nodup) (hi : X.N[i]? = some n) (hln : X.env.kindOf n = some .local) (hc : Names X x c) (tk : Takes X Wo) (ho : Outs M X.K RXo Wo)
    (hb : ∀ (RX : XW) (W : WX) (pn : List (Addr × Obj)) (xe : Value → Shared → Prop), Takes (X.tr pn xe) W → PassesOwn (model X.prog X.w) X.A X.env xe → DSs (mxw X.K RX W) (X.tr pn xe) body (gb RX))
    (hsu : ∀ (fs : Option (List (Str × D))) (a : Addr) (oe : Obj) (cls : Value) (d : Option Addr) (pn : List (Addr × Obj)), Zc cls d oe → (∃ vs, oe.data = .fields vs) → DSs (mxe X.K fs d) (X.suite a ((a, oe) :: pn)) (b₀ :: suite) (gs a cls fs))
    (hx : X.ex = [] := by rfl) (hs : X.stack = X.env :: X.outer := by rfl) (hf : X.env.frame = some X.env.locals := by rfl) :
    DS M X (.Try body [.ExceptHandler (some (.Name x np)) (some n) (b₀ :: suite) pos'] [] [] pos) (gTryKp X.K c i gb gs RXo) :=
  psMono (ps_try_keep (tb := fun W => liftSW X.K W gb) (ts := fun a cls d => liftSE X.K (gs a cls) d) hx hs hf hN hi hln hc tk (fun W pn xe tk' ps => pss_sw (X := X.tr pn xe) fun RX => hb RX W pn xe tk' ps)
    (fun a oe cls d pn hz hf' => pss_se (X := X.suite a ((a, oe) :: pn)) fun fs => hsu fs a oe cls d pn hz hf')) fun D σ H h => by
  obtain ⟨F, O, P, ρ, R, g, en, q, po⟩ := h
  refine ⟨_, F, O, P, ρ, R, g.re ⟨P, Same.refl _, fun cls fs ρ' O' F' H' dd σ' q1 s1 g1 xd en1 => ?_⟩, en, q, po.re g⟩
  obtain ⟨b, hb1, hb2, hb3⟩ := q1
  refine ⟨b, hb1, fun hbt a ha => ?_, fun hbf => ho F' O' P H' cls fs ρ' dd σ' (g1.re (M.mono g.rl s1 (Same.refl _))) (hb3 hbf) xd en1⟩
  have z := hb2 hbt a (g1.freeO ha)
  obtain ⟨F2, s2, g2⟩ := g1.holdX xd
  refine ⟨fs, F2, O', P, ρ'.set i (some (.ref a)), _, g2, (en1.mono s2).set (by simp only [Rep]) i, z, ⟨fun ρ3 O3 F3 H3 σ3 q3 s3 g3 en3 h3 => ?_, fun d3 O3 F3 H3 v3 q3 s3 g3 r3 => ?_, fun ρ3 O3 F3 H3 σ3 q3 s3 g3 en3 => ?_, fun ρ3 O3 F3 H3 σ3 q3 s3 g3 en3 => ?_⟩⟩
  · have gk := (g3.re (M' := M) (M.mono g.rl (s1.trans (s2.trans s3)) (Same.refl _))).newO (o := xO a cls dd) (c := .exc cls fs) h3 ⟨_, dd, upd_same, xO_is, g3.rl⟩
    exact po.nx _ _ F3 _ _ (q3 (g3.freeO h3)) (s1.trans (s2.trans s3)) gk (en3.wipe i)
  · exact po.rt _ O3 F3 H3 _ q3 (s1.trans (s2.trans s3)) (g3.re (M.mono g.rl (s1.trans (s2.trans s3)) (Same.refl _))) r3
  · exact po.bk _ O3 F3 H3 _ q3 (s1.trans (s2.trans s3)) (g3.re (M.mono g.rl (s1.trans (s2.trans s3)) (Same.refl _))) (en3.wipe i)
  · exact po.ct _ O3 F3 H3 _ q3 (s1.trans (s2.trans s3)) (g3.re (M.mono g.rl (s1.trans (s2.trans s3)) (Same.refl _))) (en3.wipe i)
end
/-! ### a held exception asked -/
/-- the object and its dict, on the heap -/
theorem heldAt {X : Cx} {pins : List (Addr × Obj)} {σ : L2.St} {F O P H} {s : Shared} {b C : Addr} {fs : Option (List (Str × D))} (I : L2.Inv X pins σ H s) (g : Gd M X.K F O P H) (h : O b = some (.exc (.ref C) fs)) :
    ∃ oe od, PySem.W.InstAt s.heap b oe C od ∧ ∀ l, fs = some l → ∃ (fv : List (Str × V)) (mA : Str → Option Value) (o : Obj), FsOk X.K F l fv ∧ od = some o ∧ (∀ f, RelO (fv.lookup f) (mA f)) ∧ ∀ n, PySem.W.lookIn n o = some (mA n) := by
  obtain ⟨_, _, o, d, hH, ⟨φ, rfl, hφ⟩, hx⟩ := g.ow b _ h
  have k : ObjOk X.prog X.w H s.heap b (.ext φ) := I.hok b _ hH
  obtain ⟨oe, vs, e1, z, e2⟩ := hφ _ k.1
  have no : PySem.W.notCls oe = true := by unfold PySem.W.notCls; rw [e2] <;> rfl
  cases fs with
  | none =>
    have hd : d = none := hx
    subst hd
    exact ⟨oe, none, ⟨e1, z.1, no, by rw [z.2]; trivial⟩, fun l e => nomatch e⟩
  | some l =>
    obtain ⟨dx, fv, rfl, h1, h2⟩ := hx
    have kd : ObjOk X.prog X.w H s.heap dx (.xd fv) := I.hok dx _ (g.fz _ _ h1)
    obtain ⟨mA, hns, hr⟩ := kd
    obtain ⟨od, ho, hl⟩ := lookIn_ns hns
    exact ⟨oe, some od, ⟨e1, z.1, no, by rw [z.2]; exact ho⟩, fun l' e => by cases e; exact ⟨fv, mA, od, h2, rfl, hr, hl⟩⟩
def rIsXD (K : PySem.W.Frag) : RAD := fun ds O Q => match ds with
  | [.ref b, .tup cs] => ∃ C fs us bb, O b = some (.exc (.ref C) fs) ∧ ExcC K C ∧ Paired clsD cs us ∧ PySem.W.kitAny K (.ref C) us = some bb ∧ Q (.bl bb) O
  | [.ref b, c] => ∃ C fs cv bb, O b = some (.exc (.ref C) fs) ∧ ExcC K C ∧ clsD c cv ∧ PySem.W.kitOne K (.ref C) cv = some bb ∧ Q (.bl bb) O
  | _ => False
theorem excC_cl {K : PySem.W.Frag} {C : Addr} (h : ExcC K C) : (PySem.W.clsIn K C).isSome = true := by
  obtain ⟨cd, hc, _⟩ := PySem.W.any_some h.hd
  rw [hc]; rfl
theorem cd_isX {X : Cx} : CallD M X (.builtin "isinstance") (rIsXD X.K) := by
  intro pins s σ H xs us Q I r h
  obtain ⟨F, O, P, ds, R, g, rr, q, po⟩ := h
  unfold rIsXD at q
  split at q
  · rename_i b cs
    obtain ⟨C, fs, us', bb, hb, hC, hp, e, q⟩ := q
    obtain ⟨v, w, rfl, r1, r2⟩ := rr.two'
    simp only [Rep] at r1 r2
    subst r1
    obtain ⟨tp, vs, rfl, ht, rs⟩ := r2
    obtain ⟨its, rv, hit, _⟩ := I.tuple (Same.seqT g.fz ht)
    have eu := clsDs hp rs rv
    subst eu
    obtain ⟨oe, od, J, _⟩ := heldAt I g hb
    cases r with
    | cons ra rb =>
      cases rb with
      | cons rb rc =>
        cases rc
        cases ra
        cases rb
        obtain ⟨dd, n, sl, hit⟩ : ∃ dd n sl, s.heap.get? tp = some ⟨.type "tuple", dd, .seq its.toArray n, sl⟩ := by
          obtain ⟨⟨oc, od, oda, osl⟩, h1, h2, n, h3⟩ := hit
          dsimp only at h2 h3
          subst h2 h3
          exact ⟨od, n, osl, h1⟩
        exact PySem.W.kia_tup (PySem.W.kitx_exc (excC_cl hC) hC.hg hC.hk hC.hs hC.ha hC.hn hC.ht hC.hm) I.kIn J hit e (fun z => nomatch z) fun tk => ⟨.bl bb, H, I.kept (t' := tk) fun _ _ z => z, rfl, po.at g q (by simp only [Rep])⟩
  · rename_i b c _
    obtain ⟨C, fs, cv, bb, hb, hC, hcv, e, q⟩ := q
    obtain ⟨v, w, rfl, r1, r2⟩ := rr.two'
    simp only [Rep] at r1
    subst r1
    obtain ⟨oe, od, J, _⟩ := heldAt I g hb
    cases r with
    | cons ra rb =>
      cases rb with
      | cons rb rc =>
        cases rc
        cases ra
        have eu := hcv.uniq r2 rb
        subst eu
        exact PySem.W.kia_one (PySem.W.kitx_exc (excC_cl hC) hC.hg hC.hk hC.hs hC.ha hC.hn hC.ht hC.hm) I.kIn J e (fun z => nomatch z) fun tk => ⟨.bl bb, H, I.kept (t' := tk) fun _ _ z => z, rfl, po.at g q (by simp only [Rep])⟩
  · exact q.elim
theorem FsOk.get {K : PySem.W.Frag} {F : Hp} {fs : List (Str × D)} {fv : List (Str × V)} {f : Str} {d : D} (h : FsOk K F fs fv) (e : fs.lookup f = some d) : ∃ v, fv.lookup f = some v ∧ Rep K F d v := by
  induction h with
  | nil => simp at e
  | @cons p q _ _ r _ ih =>
    obtain ⟨p1, p2⟩ := p
    obtain ⟨q1, q2⟩ := q
    obtain ⟨r1, r2⟩ := r
    dsimp only at r1 r2
    subst r1
    rw [List.lookup_cons] at e ⊢
    cases c : (f == p1) with
    | true => rw [c] at e; cases e; exact ⟨q2, rfl, r2⟩
    | false => rw [c] at e; exact ih e
/-- e.f of a held exception -/
def fXf (K : PySem.W.Frag) (f : Str) (fe : FE) : FE := fun ρ O Q => fe ρ O fun x O1 => ∃ b C fs d, x = .ref b ∧ O1 b = some (.exc (.ref C) (some fs)) ∧ fs.lookup f = some d ∧ ExcC K C ∧ PySem.W.findIn K (.ref C) f = some none ∧ Q d O1
theorem de_xf {X : Cx} {e : Expr} {fe : FE} {n : Str} {pos : Pos} (he : DE M X e fe) (hb : attributeBase e n X.env (eval e X.env) = eval e X.env := by rfl) : DE M X (.Attribute e n pos) (fXf X.K n fe) := by
  refine ⟨fun pins s σ H Q I h => ?_⟩
  obtain ⟨F, O, P, ρ, R, g, en, q, po⟩ := h
  have step := he.run pins s σ H (fun v' H' => ∃ F1 O1 x, Rep X.K F1 x v' ∧ Same F F1 ∧ Gd M X.K F1 O1 P H' ∧ ∃ b C fs d, x = .ref b ∧ O1 b = some (.exc (.ref C) (some fs)) ∧ fs.lookup n = some d ∧ ExcC X.K C ∧ PySem.W.findIn X.K (.ref C) n = some none ∧ R d O1) I
    ⟨F, O, P, ρ, _, g, en, q, fun x O1 F1 H1 v q1 s1 g1 r1 => ⟨F1, O1, x, r1, s1, g1, q1⟩⟩
  refine attr_of hb (thn step fun u s1 hh => ?_)
  · obtain ⟨v, H1, I1, ru, F1, O1, x, r1, s1', g1, b, C, fs, d, rfl, hO, hl, hC, hn, q2⟩ := hh
    simp only [Rep] at r1
    subst r1
    obtain rfl : u = Value.ref b := ru
    obtain ⟨oe, od, J, hf⟩ := heldAt I1 g1 hO
    obtain ⟨fv, mA, o, k1, rfl, k3, k4⟩ := hf fs rfl
    obtain ⟨w, ew, rw'⟩ := k1.get hl
    obtain ⟨u, hu, ru⟩ := RelO.some_of (v := w) (o := mA n) (by rw [← ew]; exact k3 n)
    exact HandSPX.exc_get I1.kIn J hC.hg hC.hk hC.hs (PySem.W.findObj_own hC.hd hn rfl (by rw [k4, hu])) (handed_of ru) ⟨w, H1, I1.tok _, ru, po d O1 F1 H1 w q2 s1' g1 rw'⟩
theorem ap_gTryKp (K : PySem.W.Frag) (c : Value) (i : Nat) (gb : XW → GS) (gs : Addr → Value → Option (List (Str × D)) → GS) (RXo : XW) {R : DEnds} {ρ : DEnv} {O : Ow} : gTryKp K c i gb gs RXo R ρ O = gb (xKp K c i gs RXo R) R ρ O := rfl
theorem ap_fXf (K : PySem.W.Frag) (f : Str) (fe : FE) {ρ : DEnv} {O : Ow} {Q : VD} : fXf K f fe ρ O Q = fe ρ O fun x O1 => ∃ b C fs d, x = .ref b ∧ O1 b = some (.exc (.ref C) (some fs)) ∧ fs.lookup f = some d ∧ ExcC K C ∧ PySem.W.findIn K (.ref C) f = some none ∧ Q d O1 := rfl
theorem isNon_r {a : Addr} : isNon (.ref a) = false := rfl
end Kf
/-! Dl25: dicts compared, cleared; max of a tuple of ints; instances of own classes: fields, methods, making. -/
namespace Kf
open PySem PySem.Spec L2
open PyProof.Rows hiding St
variable {M : MX}
/-! ### dicts of data compared -/
/-- the one holds what the other holds, all of it flat enough data -/
def sameDic (ks ls : List (Key × D)) : Prop := ks.length = ls.length ∧ ∀ p ∈ ks, isPy p.2 = true ∧ dp p.2 ≤ 60 ∧ valD ls p.1 = some p.2
section
variable {X : Cx} {pins : List (Addr × Obj)} {σ : L2.St} {F P H : Hp} {O : Ow} {s : Shared}
theorem shaped_of {d : D} (h : isPy d = true) (hd : dp d ≤ 60) : SeqAt.shaped (toPy d) = true := by
  unfold SeqAt.shaped
  rw [Bool.and_eq_true]
  exact ⟨isPy_lay d h, decide_eq_true (by have : (toPy d).depth ≤ 60 := hd; omega)⟩
theorem hits_data {ls : List (Key × D)} {ws : List (Key × V)} {vb : List (Key × Value)} {A : Around} (I : L2.Inv X pins σ H s) (g : Gd M X.K F O P H) (hu : A.in1.units + 64 < cLine) (kl : KvOk X.K F ls ws) (rb : KV ws vb) :
    ∀ {ks : List (Key × D)} {vs : List (Key × V)} {va : List (Key × Value)}, KvOk X.K F ks vs → KV vs va → (∀ p ∈ ks, isPy p.2 = true ∧ dp p.2 ≤ 60 ∧ valD ls p.1 = some p.2) → PySem.W.KeqHits A.in1 s vb va true := by
  intro ks vs va hk
  induction hk generalizing va with
  | nil => intro ra _; cases ra; exact .nil
  | @cons p q ps qs z t ih =>
    intro ra hp
    cases ra with
    | @cons _ r _ rs hr tr =>
      obtain ⟨k, v⟩ := r
      obtain ⟨hr1, hr2⟩ := hr
      obtain ⟨h1, h2, h3⟩ := hp p List.mem_cons_self
      obtain ⟨e1, e2⟩ := kl.val (k := p.1)
      obtain ⟨w, ew, rw'⟩ := e1 _ h3
      have rr : RelO (some w) (valueAt vb p.1) := by rw [← ew]; exact rb.val p.1
      obtain ⟨y, hy, ry⟩ := rr.some_of
      have hk : p.1 = k := z.1.trans hr1
      rw [hk] at hy
      obtain ⟨as, w1⟩ := Dp.reads I _ q.2 v (Rep.dp g.fz _ _ h1 z.2) hr2
      obtain ⟨bs, w2⟩ := Dp.reads I _ w y (Rep.dp g.fz _ _ h1 rw') ry
      have ea := PySem.W.keq_at (A := A) w1 w2 (shaped_of h1 h2) (shaped_of h1 h2) hu
      rw [SeqAt.eqv_refl _ (isPy_lay _ h1)] at ea
      show PySem.W.KeqHits A.in1 s vb ((k, v) :: rs) (true && true)
      exact .hit hy ea (ih tr fun p' hm => hp p' (List.mem_cons_of_mem _ hm))
end
def rDEq (neg : Bool) : R2D := fun x y O Q => ∃ a b ks ls, x = .ref a ∧ y = .ref b ∧ O a = some (.dic ks) ∧ O b = some (.dic ls) ∧ sameDic ks ls ∧ Q (.bl (!neg)) O
section
variable {X : Cx}
theorem od_deq (hu : X.A.units + 200 < cLine) : OpD M X (compareOp .Eq) (rDEq false) := by
  intro pins s σ H x y v u Q I rx ry q
  obtain ⟨F, O, P, dx, dy, R, g, r1, r2, ⟨a, b, ks, ls, rfl, rfl, ha, hb, ⟨hl, hp⟩, q⟩, po⟩ := q
  simp only [Rep] at r1 r2
  subst r1 r2
  obtain rfl : v = Value.ref a := rx
  obtain rfl : u = Value.ref b := ry
  obtain ⟨_, _, vs, e1, k1⟩ := g.ow a _ ha
  obtain ⟨_, _, ws, e2, k2⟩ := g.ow b _ hb
  obtain ⟨_, ya, va, ra, da⟩ := (show ObjOk X.prog X.w H s.heap a (.dK vs) from I.hok a _ e1)
  obtain ⟨_, yb, vb, rb, db⟩ := (show ObjOk X.prog X.w H s.heap b (.dK ws) from I.hok b _ e2)
  have hl' : va.length = vb.length := by rw [← ra.length, ← rb.length, ← k1.length, ← k2.length]; exact hl
  refine PySem.W.keq_eq (knd := mixKind X.prog X.w) (r := true) ya yb da db (by omega) (fun _ => hits_data I g (by show X.A.units + 1 + 64 < cLine; omega) k2 rb k1 ra hp) ⟨.bl _, H, I, rfl, ?_⟩
  rw [show (va.length == vb.length && true) = true by rw [hl']; simp]
  exact po.at g q (by simp only [Rep, Bool.not_false])
theorem od_dne (hu : X.A.units + 200 < cLine) : OpD M X (compareOp .NotEq) (rDEq true) := by
  intro pins s σ H x y v u Q I rx ry q
  obtain ⟨F, O, P, dx, dy, R, g, r1, r2, ⟨a, b, ks, ls, rfl, rfl, ha, hb, ⟨hl, hp⟩, q⟩, po⟩ := q
  simp only [Rep] at r1 r2
  subst r1 r2
  obtain rfl : v = Value.ref a := rx
  obtain rfl : u = Value.ref b := ry
  obtain ⟨_, _, vs, e1, k1⟩ := g.ow a _ ha
  obtain ⟨_, _, ws, e2, k2⟩ := g.ow b _ hb
  obtain ⟨_, ya, va, ra, da⟩ := (show ObjOk X.prog X.w H s.heap a (.dK vs) from I.hok a _ e1)
  obtain ⟨_, yb, vb, rb, db⟩ := (show ObjOk X.prog X.w H s.heap b (.dK ws) from I.hok b _ e2)
  have hl' : va.length = vb.length := by rw [← ra.length, ← rb.length, ← k1.length, ← k2.length]; exact hl
  refine PySem.W.keq_ne (knd := mixKind X.prog X.w) (r := true) ya yb da db (by omega) (fun _ => hits_data I g (by show X.A.units + 1 + 64 < cLine; omega) k2 rb k1 ra hp) ⟨.bl _, H, I, rfl, ?_⟩
  rw [show (va.length == vb.length && true) = true by rw [hl']; simp]
  exact po.at g q (by simp only [Rep])
end
section
variable {X : Cx} {o : Expr} {fo : FE} {apos cpos pos : Pos}
/-- d.clear() -/
def rDClr (x : D) (O : Ow) (Q : VD) : Prop := match x with
  | .ref a => match O a with
    | some (.dic _) => Q .non (updO O a (.dic []))
    | _ => False
  | _ => False
def fDClr (fo : FE) : FE := fun ρ O Q => fo ρ O fun x O1 => rDClr x O1 Q
theorem de_dclr (ho : DE M X o fo) (hbase : attributeBase o "clear" X.env (eval o X.env) = eval o X.env := by rfl) (hline : (apos.endLine == cpos.line) = true := by rfl) : DE M X (.Call (.Attribute o "clear" apos) [] [] cpos) (fDClr fo) :=
  peMono (pe_dclear ho hbase hline) fun σ H Q h => by
  obtain ⟨F, O, P, ρ, R, g, en, q, po⟩ := h
  refine ⟨F, O, P, ρ, _, g, en, q, fun x O1 F1 H1 v q1 s1 g1 r1 => ?_⟩
  unfold rDClr at q1
  split at q1 <;> first | exact q1.elim | skip
  rename_i a
  split at q1 <;> first | exact q1.elim | skip
  rename_i kvs e
  obtain ⟨_, _, vs, h1, h2⟩ := g1.ow a _ e
  simp only [Rep] at r1
  subst r1
  refine ⟨.inr (.inr (.inl ⟨rfl, .inl ⟨vs, h1⟩⟩)), a, vs, rfl, rfl, h1, ?_⟩
  exact po .non _ F1 _ _ q1 s1 (g1.setO e ⟨[], upd_same, .nil⟩) (by simp only [Rep])
end
section
variable {X : Cx}
theorem maxD_lmx (n : Int) : ∀ ns : List Int, PySem.W.maxD (.int n) (ns.map .int) = .int (lmx (n :: ns)) := fun ns => by
  rw [PySem.W.maxD_ints]
  congr 1
  refine (lmx_eq ?_ fun a ha => ?_)
  · induction ns generalizing n with
    | nil => simp
    | cons b r ih =>
      rw [List.foldl_cons]
      rcases List.mem_cons.mp (ih (max n b)) with h | h
      · rw [h]
        by_cases c : n ≤ b
        · rw [Int.max_eq_right c]; simp
        · rw [Int.max_eq_left (by omega)]; simp
      · simp [h]
  · have mono : ∀ (ns : List Int) (n : Int), n ≤ ns.foldl max n := fun ns => by
      induction ns with
      | nil => intro n; exact Int.le_refl _
      | cons b r ih => intro n; rw [List.foldl_cons]; exact Int.le_trans (Int.le_max_left _ _) (ih _)
    induction ns generalizing n with
    | nil => simp at ha; subst ha; exact Int.le_refl _
    | cons b r ih =>
      rw [List.foldl_cons]
      rcases List.mem_cons.mp ha with rfl | h
      · exact Int.le_trans (Int.le_max_left _ _) (mono _ _)
      · rcases List.mem_cons.mp h with rfl | h
        · exact Int.le_trans (Int.le_max_right _ _) (mono _ _)
        · exact ih _ (List.mem_cons_of_mem _ h)
/-- max(t), t a tuple of ints -/
def rMaxT : RAD := fun ds O Q => match ds with
  | [.tup es] => match asInts es with
    | some ns => ns ≠ [] ∧ Q (.int (lmx ns)) O
    | none => False
  | _ => False
theorem isPys_mi (ns : List Int) : isPys (ns.map D.int) = true := by
  induction ns with
  | nil => rfl
  | cons n r ih => simp only [List.map_cons, isPys, isPy, ih, Bool.and_self]
theorem toPys_mi (ns : List Int) : toPys (ns.map D.int) = ns.map PyData.int := by
  induction ns with
  | nil => rfl
  | cons n r ih => simp only [List.map_cons, toPys, toPy, ih]
theorem cd_maxT (hc : X.calm = true) (hu : X.A.units + 200 < cLine) : CallD M X (.builtin "max") rMaxT := by
  intro pins s σ H xs us Q I r h
  obtain ⟨F, O, P, ds, R, g, rr, q, po⟩ := h
  unfold rMaxT at q
  split at q <;> first | exact q.elim | skip
  rename_i es
  cases e0 : asInts es with
  | none => rw [e0] at q; exact q.elim
  | some ns =>
  rw [e0] at q
  obtain ⟨q1, q2⟩ := q
  rw [of_asInts e0] at rr
  obtain ⟨v, rfl, r1⟩ := rr.one'
  simp only [Rep] at r1
  obtain ⟨a, ws, rfl, ht, rs⟩ := r1
  obtain rfl := Vals.ref1 r
  obtain ⟨its, rv, hit, _⟩ := I.tuple (Same.seqT g.fz ht)
  cases ns with
  | nil => exact absurd rfl q1
  | cons n ns =>
  obtain ⟨as, hr⟩ := Dp.readsAll I _ ws its (RepAll.dp g.fz _ ws (isPys_mi (n :: ns)) rs) rv
  rw [toPys_mi] at hr
  refine PySem.W.max_tuple_data (x := .int n) (xs := ns.map .int) (I.ok.hd hc) hit (by simpa using hr) ⟨fun x hx y hy => ?_, fun x hx => ?_⟩ ?_ fun i v h' tk bs hi rd hk => ?_
  · rw [← List.map_cons] at hx hy
    obtain ⟨_, _, rfl⟩ := List.mem_map.mp hx
    obtain ⟨_, _, rfl⟩ := List.mem_map.mp hy
    rfl
  · rw [← List.map_cons] at hx
    obtain ⟨_, _, rfl⟩ := List.mem_map.mp hx
    exact fun z => nomatch z
  · have : PyData.depthAll (PyData.int n :: ns.map PyData.int) = 0 := by
      have : ∀ l : List Int, PyData.depthAll (l.map PyData.int) = 0 := fun l => by
        induction l with
        | nil => simp [PyData.depthAll]
        | cons b r ih => simp [PyData.depthAll, PyData.depth, ih]
      exact this (n :: ns)
    rw [this]; omega
  · rw [maxD_lmx] at rd
    cases rd
    exact ⟨.int _, H, I.kept hk, ⟨_, rfl⟩, po.at g q2 (by simp only [Rep])⟩
end
/-! ### instances of own classes -/
def putFD (f : Str) (v : D) : List (Str × D) → List (Str × D)
  | [] => [(f, v)]
  | (g, x) :: r => if g = f then (g, v) :: r else (g, x) :: putFD f v r
theorem FsOk.put {K : PySem.W.Frag} {F : Hp} {f : Str} {d : D} {v : V} (r : Rep K F d v) {fs : List (Str × D)} {fv : List (Str × V)} (h : FsOk K F fs fv) : FsOk K F (putFD f d fs) (putF f v fv) := by
  induction h with
  | nil => exact .cons ⟨rfl, r⟩ .nil
  | @cons p q ps qs z t ih =>
    obtain ⟨p1, p2⟩ := p
    obtain ⟨q1, q2⟩ := q
    obtain ⟨z1, z2⟩ := z
    dsimp only at z1 z2
    subst z1
    unfold putFD putF
    split
    · exact .cons ⟨rfl, r⟩ t
    · exact .cons ⟨rfl, z2⟩ ih
theorem FsOk.none {K : PySem.W.Frag} {F : Hp} {f : Str} {fs : List (Str × D)} {fv : List (Str × V)} (h : FsOk K F fs fv) (e : fs.lookup f = none) : fv.lookup f = none := by
  induction h with
  | nil => rfl
  | @cons p q _ _ r _ ih =>
    obtain ⟨p1, p2⟩ := p
    obtain ⟨q1, q2⟩ := q
    obtain ⟨r1, r2⟩ := r
    dsimp only at r1 r2
    subst r1
    rw [List.lookup_cons] at e ⊢
    cases c : (f == p1) with
    | true => rw [c] at e; cases e
    | false => rw [c] at e; exact ih e
theorem FsOk.length {K : PySem.W.Frag} {F : Hp} {fs : List (Str × D)} {fv : List (Str × V)} (h : FsOk K F fs fv) : fs.length = fv.length := Paired.length h
section
variable {X : Cx} {o e value : Expr} {es : List Expr} {f m x : Str} {pos pos' apos p : Pos} {fo fe : FE} {fr : FA} {k : Nat} {C g0 : Addr} {fd : FuncData} {ps : List Str} {dsp : DSp}
/-- o.f -/
def rFld (f : Str) (x : D) (O : Ow) (Q : VD) : Prop := match x with
  | .ref a => match O a with
    | some (.ins _ fs) => match fs.lookup f with
      | some d => Q d O
      | none => False
    | _ => False
  | _ => False
/-- an instance of the class at C -/
def isIns (C : Addr) (x : D) (O : Ow) : Prop := ∃ a fs, x = .ref a ∧ O a = some (.ins C fs)
def fFld (C : Addr) (f : Str) (fo : FE) : FE := fun ρ O Q => fo ρ O fun x O1 => isIns C x O1 ∧ rFld f x O1 Q
theorem de_fld (c : Cls X.K C) (n : NoAttr X.K C f) (ho : DE M X o fo) (hb : attributeBase o f X.env (eval o X.env) = eval o X.env := by rfl) : DE M X (.Attribute o f pos) (fFld C f fo) := peMono (pe_fld ho hb) fun σ H Q h => by
  obtain ⟨F, O, P, ρ, R, g, en, q, po⟩ := h
  refine ⟨F, O, P, ρ, _, g, en, q, fun x O1 F1 H1 v q1 s1 g1 r1 => ?_⟩
  obtain ⟨⟨a, fs, rfl, hO⟩, q1⟩ := q1
  simp only [Rep] at r1
  subst r1
  unfold rFld at q1
  simp only [hO] at q1
  obtain ⟨_, _, dx, fv, h1, h2⟩ := g1.ow a _ hO
  cases e : fs.lookup f with
  | none => rw [e] at q1; exact q1.elim
  | some d =>
    rw [e] at q1
    obtain ⟨w, ew, rw'⟩ := h2.get e
    exact ⟨a, C, dx, fv, w, rfl, h1, c, n, ew, (po.more s1).at g1 q1 rw'⟩
/-- o.f = value -/
def rFldS (f : Str) (x d : D) (O : Ow) (N : Ow → Prop) : Prop := match x with
  | .ref a => match O a with
    | some (.ins C fs) => fs.length < 1000 ∧ N (updO O a (.ins C (putFD f d fs)))
    | _ => False
  | _ => False
def gFld (C : Addr) (f : Str) (fo fe : FE) : GS := fun R ρ O => fe ρ O fun d O1 => fo ρ O1 fun x O2 => isIns C x O2 ∧ rFldS f x d O2 (R.nx ρ)
theorem ds_fld (c : Cls X.K C) (n : NoAttr X.K C f) (ho : DE M X o fo) (he : DE M X value fe) (hs : swapsWith value (some (.Attribute o f pos')) pos.line X.env = pure false := by rfl) : DS M X (.Assign [.Attribute o f pos'] value pos) (gFld C f fo fe) := psMono (ps_fld ho he hs) fun D σ H h => by
  obtain ⟨F, O, P, ρ, R, g, en, q, po⟩ := h
  refine ⟨F, O, P, ρ, _, g, en, q, fun d O1 F1 H1 v q1 s1 g1 r1 => ?_⟩
  refine ⟨F1, O1, P, ρ, _, g1, en.mono s1, q1, fun x O2 F2 H2 w q2 s2 g2 r2 => ?_⟩
  obtain ⟨⟨a, fs, rfl, hO⟩, q2⟩ := q2
  simp only [Rep] at r2
  subst r2
  unfold rFldS at q2
  simp only [hO] at q2
  obtain ⟨_, _, dx, fv, h1, h2⟩ := g2.ow a _ hO
  refine ⟨a, C, dx, fv, rfl, h1, c, n, by rw [← h2.length]; exact q2.1, ?_⟩
  exact po.nx ρ _ F2 _ σ q2.2 (s1.trans s2) (g2.setO hO ⟨dx, _, upd_same, h2.put (r1.mono s2)⟩) (en.mono (s1.trans s2))
/-- a method as it stands -/
structure Mt (K : PySem.W.Frag) (C : Addr) (m qual : Str) (st : Stmt) (ps : List Str) (f : Addr) (fd : FuncData) : Prop where
  F : Fun K m qual st f fd
  m : Meth K C m f
  b : Binds K fd ps []
def insNo (C : Addr) (m : Str) (x : D) (O : Ow) : Prop := ∃ a fs, x = .ref a ∧ O a = some (.ins C fs) ∧ fs.lookup m = none
def fMeth (C : Addr) (m : Str) (dsp : DSp) (fo : FE) (fr : FA) : FE := fun ρ O Q => fo ρ O fun x O1 => insNo C m x O1 ∧ fr ρ O1 fun ds O2 => dsp (x :: ds) O2 Q X0
theorem de_meth {qual : Str} {st : Stmt} {pl : Sem Bool} (c : Cls X.K C) (N : Mt X.K C m qual st ps g0 fd) (G : FnOk X.prog X.w X.K X.mg X.base CX0 k g0 fd ps (liftSp X.K dsp)) (hr : Room k X.A) (ho : DE M X o fo) (ha : DA M X (e :: es) fr)
    (hst : starEach (e :: es) X.env = (false, eval e X.env) :: starEach es X.env := by rfl) (hpl : (backTo pos (starEach es X.env)).any (·.1) = false := by rfl)
    (ht : eval (.Call (.Attribute o m apos) (e :: es) [] pos) X.env = (do
      let ov ← eval o X.env
      standAt apos.atName
      let (f, first) ← holding [ov] (getMethod ov m pl)
      callWith pos f first (backTo pos (starEach (e :: es) X.env)) (backToKw pos (keywordEach [] X.env))) := by rfl) :
    DE M X (.Call (.Attribute o m apos) (e :: es) [] pos) (fMeth C m dsp fo fr) := peMono (pe_meth ho c N.m G hr N.b .nil pass0 ha hst hpl ht) fun σ H Q h => by
  obtain ⟨F, O, P, ρ, R, g, en, q, po⟩ := h
  refine ⟨F, O, P, ρ, _, g, en, q, fun x O1 F1 H1 v q1 s1 g1 r1 => ?_⟩
  obtain ⟨⟨a, fs, rfl, hO, hl⟩, q1⟩ := q1
  have rx := r1
  simp only [Rep] at r1
  subst r1
  obtain ⟨_, _, dx, fv, h1, h2⟩ := g1.ow a _ hO
  refine ⟨a, dx, fv, rfl, h1, h2.none hl, F1, O1, P, ρ, _, g1, en.mono s1, q1, fun ds O2 F2 H2 vs q2 s2 g2 r2 => ?_⟩
  show liftSp X.K dsp (V.ref a :: (vs ++ [])) H2 Q E0
  rw [List.append_nil]
  exact ⟨F2, O2, P, _, R, X0, g2.mt, .cons (rx.mono s2) r2, q2, po.mt g2 (s1.trans s2), fun _ _ _ _ _ _ z => z.elim⟩
theorem de_meth0 {qual : Str} {st : Stmt} {pl : Sem Bool} (c : Cls X.K C) (N : Mt X.K C m qual st ps g0 fd) (G : FnOk X.prog X.w X.K X.mg X.base CX0 k g0 fd ps (liftSp X.K dsp)) (hr : Room k X.A) (ho : DE M X o fo)
    (ht : eval (.Call (.Attribute o m apos) [] [] pos) X.env = (do
      let ov ← eval o X.env
      standAt apos.atName
      let (f, first) ← holding [ov] (getMethod ov m pl)
      callWith pos f first (backTo pos (starEach [] X.env)) (backToKw pos (keywordEach [] X.env))) := by rfl) :
    DE M X (.Call (.Attribute o m apos) [] [] pos) (fMeth C m dsp fo fNil) := peMono (pe_meth0 ho c N.m G hr N.b .nil pass0 ht) fun σ H Q h => by
  obtain ⟨F, O, P, ρ, R, g, en, q, po⟩ := h
  refine ⟨F, O, P, ρ, _, g, en, q, fun x O1 F1 H1 v q1 s1 g1 r1 => ?_⟩
  obtain ⟨⟨a, fs, rfl, hO, hl⟩, q1⟩ := q1
  have rx := r1
  simp only [Rep] at r1
  subst r1
  obtain ⟨_, _, dx, fv, h1, h2⟩ := g1.ow a _ hO
  exact ⟨a, dx, fv, rfl, h1, h2.none hl, F1, O1, P, _, R, X0, g1.mt, .cons rx .nil, q1, po.mt g1 s1, fun _ _ _ _ _ _ z => z.elim⟩
/-- C(..) -/
def fMake (C : Addr) (dsp : DSp) (fr : FA) : FE := fun ρ O Q => fr ρ O fun ds O1 => ∀ p, O1 p = none → dsp (.ref p :: ds) (updO O1 p (.ins C [])) (fun v O2 => v = .non ∧ Q (.ref p) O2) X0
theorem mk_lift {F F1 P H1 : Hp} {O1 : Ow} {ds : List D} {vs : List V} {R : VD} {Q : VK} (s1 : Same F F1) (g1 : Gd M X.K F1 O1 P H1) (r1 : RepAll X.K F1 ds vs) (po : PostE M X.K F P R Q)
    (q1 : ∀ p, O1 p = none → dsp (.ref p :: ds) (updO O1 p (.ins C [])) (fun v O2 => v = .non ∧ R (.ref p) O2) X0) :
    ∀ x dx, H1 x = none → H1 dx = none → dx ≠ x → liftSp X.K dsp (.ref x :: (vs ++ [])) (upd (upd H1 dx (.own x)) x (.ins C dx [])) (fun v H2 => v = .non ∧ Q (.ref x) H2) E0 := by
  intro x dx hx hd ne
  have gd := g1.skip (o := .own x) hd
  have hx' : upd H1 dx (.own x) x = none := by rw [upd_ne (fun z => ne z.symm)]; exact hx
  have gx := gd.newO (o := .ins C dx []) (c := .ins C []) hx' ⟨dx, [], upd_same, .nil⟩
  rw [List.append_nil]
  refine ⟨F1, _, P, _, _, X0, gx.mt, .cons (by simp only [Rep]) r1, q1 x (g1.freeO hx), ?_, fun _ _ _ _ _ _ z => z.elim⟩
  intro d O' F' H' v q s g r
  obtain ⟨rfl, q⟩ := q
  simp only [Rep] at r
  subst r
  exact ⟨rfl, po _ O' F' H' _ q (s1.trans s) (g.re (M.mono gx.rl s (Same.refl _))) (by simp only [Rep])⟩
/-- a class that is made by its __init__ -/
structure MkN (K : PySem.W.Frag) (mg : Str → Option Value) (x : Str) (C : Addr) (f : Addr) : Prop where
  made : Mk K C f
  g : mg x = some (.ref C)
theorem de_make {qual : Str} {st : Stmt} (N : MkN X.K X.mg x C g0) (I : Mt X.K C "__init__" qual st ps g0 fd) (G : FnOk X.prog X.w X.K X.mg X.base CX0 k g0 fd ps (liftSp X.K dsp)) (hr : Room (k + 1) X.A) (hg : Gl X x) (ha : DA M X (e :: es) fr)
    (hdb : (x == ("__debug__" : Str)) = false := by decide) (he : starEach (e :: es) X.env = (false, eval e X.env) :: starEach es X.env := by rfl) (hpl : (backTo pos (starEach es X.env)).any (·.1) = false := by rfl) :
    DE M X (.Call (.Name x p) (e :: es) [] pos) (fMake C dsp fr) := peMono (pe_make N.made G hr hg N.g I.b .nil pass0 ha hdb he hpl) fun σ H Q h => by
  obtain ⟨F, O, P, ρ, R, g, en, q, po⟩ := h
  exact ⟨F, O, P, ρ, _, g, en, q, fun ds O1 F1 H1 vs q1 s1 g1 r1 => mk_lift s1 g1 r1 po q1⟩
theorem de_make0 {qual : Str} {st : Stmt} (N : MkN X.K X.mg x C g0) (I : Mt X.K C "__init__" qual st ps g0 fd) (G : FnOk X.prog X.w X.K X.mg X.base CX0 k g0 fd ps (liftSp X.K dsp)) (hr : Room (k + 1) X.A) (hg : Gl X x)
    (hdb : (x == ("__debug__" : Str)) = false := by decide) : DE M X (.Call (.Name x p) [] [] pos) (fMake C dsp fNil) := peMono (pe_make0 N.made G hr hg N.g I.b .nil pass0 hdb) fun σ H Q h => by
  obtain ⟨F, O, P, ρ, R, g, en, q, po⟩ := h
  exact mk_lift (Same.refl _) g .nil po q
end
theorem ap_fFld (C : Addr) (f : Str) (fo : FE) {ρ : DEnv} {O : Ow} {Q : VD} : fFld C f fo ρ O Q = fo ρ O fun x O1 => isIns C x O1 ∧ rFld f x O1 Q := rfl
theorem ap_gFld (C : Addr) (f : Str) (fo fe : FE) {R : DEnds} {ρ : DEnv} {O : Ow} : gFld C f fo fe R ρ O = fe ρ O fun d O1 => fo ρ O1 fun x O2 => isIns C x O2 ∧ rFldS f x d O2 (R.nx ρ) := rfl
theorem ap_fMeth (C : Addr) (m : Str) (dsp : DSp) (fo : FE) (fr : FA) {ρ : DEnv} {O : Ow} {Q : VD} : fMeth C m dsp fo fr ρ O Q = fo ρ O fun x O1 => insNo C m x O1 ∧ fr ρ O1 fun ds O2 => dsp (x :: ds) O2 Q X0 := rfl
theorem ap_fMake (C : Addr) (dsp : DSp) (fr : FA) {ρ : DEnv} {O : Ow} {Q : VD} : fMake C dsp fr ρ O Q = fr ρ O fun ds O1 => ∀ p, O1 p = none → dsp (.ref p :: ds) (updO O1 p (.ins C [])) (fun v O2 => v = .non ∧ Q (.ref p) O2) X0 := rfl
theorem ap_fDClr (fo : FE) {ρ : DEnv} {O : Ow} {Q : VD} : fDClr fo ρ O Q = fo ρ O fun x O1 => rDClr x O1 Q := rfl
section
variable {O : Ow} {a C : Addr} {fs : List (Str × D)} {f m : Str} {d : D} {Q : VD} {N : Ow → Prop}
theorem isIns_of (h : O a = some (.ins C fs)) : isIns C (.ref a) O := ⟨a, fs, rfl, h⟩
theorem insNo_of (h : O a = some (.ins C fs)) (e : fs.lookup m = none) : insNo C m (.ref a) O := ⟨a, fs, rfl, h, e⟩
theorem rFld_of (h : O a = some (.ins C fs)) (e : fs.lookup f = some d) : rFld f (.ref a) O Q = Q d O := by simp only [rFld, h, e]
theorem rFldS_of (h : O a = some (.ins C fs)) : rFldS f (.ref a) d O N = (fs.length < 1000 ∧ N (updO O a (.ins C (putFD f d fs)))) := by simp only [rFldS, h]
theorem rMaxT_i {ns : List Int} (h : ns ≠ []) : rMaxT [.tup (ns.map D.int)] O Q = Q (.int (lmx ns)) O := by simp only [rMaxT, asInts_map, ne_eq, h, not_false_eq_true, true_and]
theorem rDClr_r {kvs : List (Key × D)} (h : O a = some (.dic kvs)) : rDClr (.ref a) O Q = Q .non (updO O a (.dic [])) := by simp only [rDClr, h]
end
end Kf
/-! Dl26: defs as values (called, compared), a caught exception that the suite holds as a thing. -/
namespace Kf
open PySem PySem.Spec L2
open PyProof.Rows hiding St
variable {M : MX}
/-! ### functions compared -/
theorem sl_fn_eq : Slot "function" "__eq__" "object.__eq__" :=
  .of (owner := "object") (n := "__eq__") (by rw [typeLookup_type, builtinLookup_eq_fast]; kernel_rfl) (by decide +kernel) (by decide +kernel) (by decide +kernel)
    (by first | exact .inl (by decide +kernel) | exact .inr (by decide +kernel)) (by rw [isSubtype_type]; kernel_rfl)
theorem sl_fn_ne : Slot "function" "__ne__" "object.__ne__" :=
  .of (owner := "object") (n := "__ne__") (by rw [typeLookup_type, builtinLookup_eq_fast]; kernel_rfl) (by decide +kernel) (by decide +kernel) (by decide +kernel)
    (by first | exact .inl (by decide +kernel) | exact .inr (by decide +kernel)) (by rw [isSubtype_type]; kernel_rfl)
section
variable {prog : Program} {w : World} {A : Around} {E : Value → Shared → Prop} {s : Shared} {x y : Addr}
theorem fn_noTuple {ox : Obj} (hx : s.TypeIs (.ref x) "function") (h : s.heap.get? x = some ox) : ox.cls ≠ .type "tuple" := by
  obtain ⟨o, ho, hc⟩ := hx
  rw [h] at ho; cases ho
  rw [hc]; simp
theorem fnSp_same (hx : s.TypeIs (.ref x) "function") {Q : Option Value → Shared → Prop} (hq : Q (some (.bool true)) s) :
    wpAny (model prog w) A (callSpecialIfBound? (.ref x) "__eq__" [.ref x]) Q E s :=
  wpAny_callSpecialIfBound?_slot hx sl_fn_eq (wpAny_call (codeAny_call_builtin sl_fn_eq.plain F.cmpEntry_eq (sl_fn_eq.check _ _ _ _ _ _ _ _ hx (F.cmpArgs_eq _ _) (objEq_entry_same hq))))
theorem fnSp_other (hx : s.TypeIs (.ref x) "function") (hy : s.TypeIs (.ref y) "function") (hxy : x ≠ y) {Q : Option Value → Shared → Prop} (hq : Q (some .notImplemented) s) :
    wpAny (model prog w) A (callSpecialIfBound? (.ref x) "__eq__" [.ref y]) Q E s := by
  obtain ⟨ox, h1, c1⟩ := id hx
  obtain ⟨oy, h2, c2⟩ := id hy
  exact wpAny_callSpecialIfBound?_slot hx sl_fn_eq (wpAny_call (codeAny_call_builtin sl_fn_eq.plain F.cmpEntry_eq (sl_fn_eq.check _ _ _ _ _ _ _ _ hx (F.cmpArgs_eq _ _)
    (objEq_entry_other hxy h1 h2 (fn_noTuple hx h1) hq))))
theorem fnTe_same (hx : s.TypeIs (.ref x) "function") {Q : Option Value → Shared → Prop} (hq : Q (some (.bool true)) s) : wpAny (model prog w) A (tryCompare (.ref x) "__eq__" (.ref x)) Q E s := by
  simp only [tryCompare]
  exact wpAny_bind (fnSp_same hx (wpAny_pure hq))
theorem fnTe_other (hx : s.TypeIs (.ref x) "function") (hy : s.TypeIs (.ref y) "function") (hxy : x ≠ y) {Q : Option Value → Shared → Prop} (hq : Q none s) : wpAny (model prog w) A (tryCompare (.ref x) "__eq__" (.ref y)) Q E s := by
  simp only [tryCompare]
  exact wpAny_bind (fnSp_other hx hy hxy (wpAny_pure hq))
theorem fnNe_same (hx : s.TypeIs (.ref x) "function") (hu : A.units < cLine) {Q : Fin → Shared → Prop} (hq : Q (.done (.ret (.bool false))) s) :
    wpAny (model prog w) A (Builtin.«object.__ne__» ⟨[.ref x, .ref x], []⟩) Q E s := by
  unfold Builtin.«object.__ne__»
  repeat (first | with_reducible refine wpAny_cRoomFor hu ?_ | with_reducible refine fnSp_same hx ?_ | wp_step)
  exact hq
theorem fnNe_other (hx : s.TypeIs (.ref x) "function") (hy : s.TypeIs (.ref y) "function") (hxy : x ≠ y) (hu : A.units < cLine) {Q : Fin → Shared → Prop} (hq : Q (.done (.ret .notImplemented)) s) :
    wpAny (model prog w) A (Builtin.«object.__ne__» ⟨[.ref x, .ref y], []⟩) Q E s := by
  unfold Builtin.«object.__ne__»
  repeat (first | with_reducible refine wpAny_cRoomFor hu ?_ | with_reducible refine fnSp_other hx hy hxy ?_ | wp_step)
  exact hq
theorem fnTn_same (hx : s.TypeIs (.ref x) "function") (hu : A.units + 1 < cLine) {Q : Option Value → Shared → Prop} (hq : Q (some (.bool false)) s) : wpAny (model prog w) A (tryCompare (.ref x) "__ne__" (.ref x)) Q E s := by
  simp only [tryCompare]
  refine wpAny_bind (wpAny_callSpecialIfBound?_slot hx sl_fn_ne (wpAny_call (codeAny_call_builtin sl_fn_ne.plain F.cmpEntry_ne
    (sl_fn_ne.check _ _ _ _ _ _ _ _ hx (F.cmpArgs_ne _ _) (fnNe_same (A := A.in1) hx hu ?_)))))
  exact wpAny_pure hq
theorem fnTn_other (hx : s.TypeIs (.ref x) "function") (hy : s.TypeIs (.ref y) "function") (hxy : x ≠ y) (hu : A.units + 1 < cLine) {Q : Option Value → Shared → Prop} (hq : Q none s) : wpAny (model prog w) A (tryCompare (.ref x) "__ne__" (.ref y)) Q E s := by
  simp only [tryCompare]
  refine wpAny_bind (wpAny_callSpecialIfBound?_slot hx sl_fn_ne (wpAny_call (codeAny_call_builtin sl_fn_ne.plain F.cmpEntry_ne
    (sl_fn_ne.check _ _ _ _ _ _ _ _ hx (F.cmpArgs_ne _ _) (fnNe_other (A := A.in1) hx hy hxy hu ?_)))))
  exact wpAny_pure hq
theorem fn_eq (hx : s.TypeIs (.ref x) "function") (hy : s.TypeIs (.ref y) "function") (hu : A.units < cLine) {Q : Value → Shared → Prop} (hq : Q (.bool (decide (x = y))) s) : wpAny (model prog w) A (compareOp .Eq (.ref x) (.ref y)) Q E s := by
  show wpAny _ A (richCompare .Eq _ _) Q E s
  obtain ⟨ox, h1, c1⟩ := id hx
  obtain ⟨oy, h2, c2⟩ := id hy
  by_cases e : x = y
  · subst e
    simp only [richCompare, cmpInfo_Eq, oneThing_ref]
    repeat (first | with_reducible refine wpAny_cRoomFor hu ?_ | with_reducible refine wpAny_typeOf hx ?_ | with_reducible refine fnTe_same hx ?_ | wp_step)
    simpa using hq
  · rw [decide_eq_false e] at hq
    simp only [richCompare, cmpInfo_Eq, oneThing_ref]
    repeat (first | with_reducible refine wpAny_cRoomFor hu ?_ | with_reducible refine wpAny_typeOf hx ?_ | with_reducible refine wpAny_typeOf hy ?_ | with_reducible refine fnTe_other hx hy e ?_ | with_reducible refine fnTe_other hy hx (Ne.symm e) ?_ | with_reducible refine wpAny_isSame_ref_other e h1 h2 (fn_noTuple hx h1) ?_ | wp_step)
    exact hq
theorem fn_ne (hx : s.TypeIs (.ref x) "function") (hy : s.TypeIs (.ref y) "function") (hu : A.units + 1 < cLine) {Q : Value → Shared → Prop} (hq : Q (.bool (!decide (x = y))) s) : wpAny (model prog w) A (compareOp .NotEq (.ref x) (.ref y)) Q E s := by
  show wpAny _ A (richCompare .NotEq _ _) Q E s
  obtain ⟨ox, h1, c1⟩ := id hx
  obtain ⟨oy, h2, c2⟩ := id hy
  have hu0 : A.units < cLine := Nat.lt_of_succ_lt hu
  by_cases e : x = y
  · subst e
    simp only [richCompare, cmpInfo_NotEq, oneThing_ref]
    repeat (first | with_reducible refine wpAny_cRoomFor hu0 ?_ | with_reducible refine wpAny_typeOf hx ?_ | with_reducible refine fnTn_same hx hu ?_ | wp_step)
    simpa using hq
  · rw [decide_eq_false e] at hq
    simp only [richCompare, cmpInfo_NotEq, oneThing_ref]
    repeat (first | with_reducible refine wpAny_cRoomFor hu0 ?_ | with_reducible refine wpAny_typeOf hx ?_ | with_reducible refine wpAny_typeOf hy ?_ | with_reducible refine fnTn_other hx hy e hu ?_ | with_reducible refine fnTn_other hy hx (Ne.symm e) hu ?_ | with_reducible refine wpAny_isSame_ref_other e h1 h2 (fn_noTuple hx h1) ?_ | wp_step)
    exact hq
end
theorem isFn_type {K : PySem.W.Frag} {s : Shared} {f : Addr} (X : K.In s.heap) (h : PySem.W.isFn K (.ref f) = true) : s.TypeIs (.ref f) "function" := by
  unfold PySem.W.isFn PySem.W.typeIn at h
  cases e : K.lookup f with
  | none => simp [e] at h
  | some o =>
    refine ⟨o, X _ _ e, ?_⟩
    simpa [e] using h
/-- two defs compared -/
def rFnEq (K : PySem.W.Frag) (neg : Bool) : R2D := fun x y O Q => ∃ f g, x = .ref f ∧ y = .ref g ∧ PySem.W.isFn K (.ref f) = true ∧ PySem.W.isFn K (.ref g) = true ∧ Q (.bl (neg ^^ decide (f = g))) O
section
variable {X : Cx}
theorem od_feq (hu : X.A.units + 200 < cLine) : OpD M X (compareOp .Eq) (rFnEq X.K false) := by
  intro pins s σ H x y v u Q I rx ry q
  obtain ⟨F, O, P, dx, dy, R, g, r1, r2, ⟨a, b, rfl, rfl, ha, hb, q⟩, po⟩ := q
  simp only [Rep] at r1 r2
  subst r1 r2
  obtain rfl : v = Value.ref a := rx
  obtain rfl : u = Value.ref b := ry
  exact fn_eq (isFn_type I.kIn ha) (isFn_type I.kIn hb) (by omega) ⟨.bl _, H, I, rfl, po.at g q (by simp only [Rep, Bool.false_xor])⟩
theorem od_fne (hu : X.A.units + 200 < cLine) : OpD M X (compareOp .NotEq) (rFnEq X.K true) := by
  intro pins s σ H x y v u Q I rx ry q
  obtain ⟨F, O, P, dx, dy, R, g, r1, r2, ⟨a, b, rfl, rfl, ha, hb, q⟩, po⟩ := q
  simp only [Rep] at r1 r2
  subst r1 r2
  obtain rfl : v = Value.ref a := rx
  obtain rfl : u = Value.ref b := ry
  exact fn_ne (isFn_type I.kIn ha) (isFn_type I.kIn hb) (by omega) ⟨.bl _, H, I, rfl, po.at g q (by simp only [Rep, Bool.true_xor])⟩
/-- a def of the text as a value -/
theorem de_fnv {x : Str} {st : Stmt} {ps : List Str} {f : Addr} {fd : FuncData} {pos : Pos} (N : Fn X.K X.mg x st ps f fd) (hg : Gl X x) (hd : (x == ("__debug__" : Str)) = false := by decide) : DE M X (.Name x pos) (fC (.ref f)) :=
  de_glob hg N.m (v := .ref f) rfl (fun _ => by simp only [Rep]) hd
end
/-! ### a call of what an expression tells -/
def sOne (a : Addr) (sp : DSp) : Addr → DSp → Prop := fun f s => f = a ∧ s = sp
def sOr (S T : Addr → DSp → Prop) : Addr → DSp → Prop := fun f s => S f s ∨ T f s
def HeldD (P : Program) (w : World) (K : PySem.W.Frag) (mg : Str → Option Value) (base : Heap) (CX : CXT) (k : Nat) (S : Addr → DSp → Prop) : Prop :=
  ∀ f sp, S f sp → ∃ fd ps, FnOk P w K mg base CX k f fd ps (liftSp K sp) ∧ PySem.W.keepIn K (.ref f) = true ∧ Binds K fd ps []
section
variable {P : Program} {w : World} {K : PySem.W.Frag} {mg : Str → Option Value} {base : Heap} {CX : CXT} {k : Nat}
theorem held_one {x : Str} {st : Stmt} {ps : List Str} {f : Addr} {fd : FuncData} {sp : DSp} (N : Fn K mg x st ps f fd) (G : FnOk P w K mg base CX k f fd ps (liftSp K sp)) : HeldD P w K mg base CX k (sOne f sp) := by
  rintro _ _ ⟨rfl, rfl⟩
  exact ⟨fd, ps, G, N.F.kp, N.b⟩
theorem held_or {S T : Addr → DSp → Prop} (A : HeldD P w K mg base CX k S) (B : HeldD P w K mg base CX k T) : HeldD P w K mg base CX k (sOr S T) := fun f sp h => h.elim (A f sp) (B f sp)
end
def fCallE (S : Addr → DSp → Prop) (fe : FE) (fr : FA) : FE := fun ρ O Q => fe ρ O fun d O1 => ∃ f sp, d = .ref f ∧ S f sp ∧ fr ρ O1 fun ds O2 => sp ds O2 Q X0
def fCallEX (S : Addr → DSp → Prop) (RX : XW) (fe : FE) (fr : FA) : FE := fun ρ O Q => fe ρ O fun d O1 => ∃ f sp, d = .ref f ∧ S f sp ∧ fr ρ O1 fun ds O2 => sp ds O2 Q fun cls fs O' => RX cls fs ρ O'
section
variable {X : Cx} {e f₀ : Expr} {es : List Expr} {fe : FE} {fr : FA} {k : Nat} {S : Addr → DSp → Prop} {pos : Pos} {RX : XW} {W : WX}
theorem de_callE (hs : HeldD X.prog X.w X.K X.mg X.base CX0 k S) (hr : Room k X.A) (hf : DE M X f₀ fe) (ha : DA M X (e :: es) fr)
    (hc : eval (.Call f₀ (e :: es) [] pos) X.env = (do callWith pos (← eval f₀ X.env) [] (backTo pos (starEach (e :: es) X.env)) (backToKw pos (keywordEach [] X.env))) := by rfl)
    (he : starEach (e :: es) X.env = (false, eval e X.env) :: starEach es X.env := by rfl) (hpl : (backTo pos (starEach es X.env)).any (·.1) = false := by rfl) : DE M X (.Call f₀ (e :: es) [] pos) (fCallE S fe fr) := by
  refine ⟨fun pins s σ H Q I h => ?_⟩
  obtain ⟨F, O, P, ρ, R, g, en, q, po⟩ := h
  rw [hc]
  refine wpAny_bind (thn (hf.run pins s σ H (fun v' H' => ∃ F1 O1 x, Rep X.K F1 x v' ∧ Same F F1 ∧ Gd M X.K F1 O1 P H' ∧ ∃ f sp, x = .ref f ∧ S f sp ∧ fr ρ O1 fun ds O2 => sp ds O2 R X0) I
    ⟨F, O, P, ρ, _, g, en, q, fun x O1 F1 H1 v q1 s1 g1 r1 => ⟨F1, O1, x, r1, s1, g1, q1⟩⟩) fun u s1 ⟨v, H1, I1, ru, F1, O1, x, r1, s1', g1, f, sp, ex, hS, q1⟩ => ?_)
  subst ex
  simp only [Rep] at r1
  subst r1
  obtain rfl : u = Value.ref f := ru
  obtain ⟨fd, ps, G, hk, hb⟩ := hs f sp hS
  refine PySem.W.callWith_K (h₀ := X.base) I1.ok.mod.kin hk (thn (ha.run pos pins s1 σ H1 (fun vs H2 => liftSp X.K sp (vs ++ []) H2 Q E0) I1 ⟨F1, O1, P, ρ, _, g1, en.mono s1', q1, fun ds O2 F2 H2 vs q2 s2 g2 r2 => ?_⟩) fun us s2 ⟨vs, H2, I2, r, q2⟩ => ⟨I2.kIn, ?_⟩) he hpl
  · show liftSp X.K sp (vs ++ []) H2 Q E0
    rw [List.append_nil]
    exact ⟨F2, O2, P, ds, R, X0, g2.mt, r2, q2, po.mt g2 (s1'.trans s2), fun _ _ _ _ _ _ z => z.elim⟩
  · exact run_fn G hr hb .nil pass0 I2 r q2
theorem de_callEX (hs : HeldD X.prog X.w X.K X.mg X.base (L2.CX X.prog X.w) k S) (hr : Room k X.A) (tk : Takes X W) (hf : DE (mxw X.K RX W) X f₀ fe) (ha : DA (mxw X.K RX W) X (e :: es) fr)
    (hc : eval (.Call f₀ (e :: es) [] pos) X.env = (do callWith pos (← eval f₀ X.env) [] (backTo pos (starEach (e :: es) X.env)) (backToKw pos (keywordEach [] X.env))) := by rfl)
    (he : starEach (e :: es) X.env = (false, eval e X.env) :: starEach es X.env := by rfl) (hpl : (backTo pos (starEach es X.env)).any (·.1) = false := by rfl) : DE (mxw X.K RX W) X (.Call f₀ (e :: es) [] pos) (fCallEX S RX fe fr) := by
  refine ⟨fun pins s σ H Q I h => ?_⟩
  obtain ⟨F, O, P, ρ, R, g, en, q, po⟩ := h
  rw [hc]
  refine wpAny_bind (thn (hf.run pins s σ H (fun v' H' => ∃ F1 O1 x, Rep X.K F1 x v' ∧ Same F F1 ∧ Gd (mxw X.K RX W) X.K F1 O1 P H' ∧ ∃ f sp, x = .ref f ∧ S f sp ∧ fr ρ O1 fun ds O2 => sp ds O2 R fun cls fs O' => RX cls fs ρ O') I
    ⟨F, O, P, ρ, _, g, en, q, fun x O1 F1 H1 v q1 s1 g1 r1 => ⟨F1, O1, x, r1, s1, g1, q1⟩⟩) fun u s1 ⟨v, H1, I1, ru, F1, O1, x, r1, s1', g1, f, sp, ex, hS, q1⟩ => ?_)
  subst ex
  simp only [Rep] at r1
  subst r1
  obtain rfl : u = Value.ref f := ru
  obtain ⟨fd, ps, G, hk, hb⟩ := hs f sp hS
  refine PySem.W.callWith_K (h₀ := X.base) I1.ok.mod.kin hk (thn (ha.run pos pins s1 σ H1 (fun vs H2 => liftSp X.K sp vs H2 Q (WE W σ)) I1 ⟨F1, O1, P, ρ, _, g1, en.mono s1', q1, fun ds O2 F2 H2 vs q2 s2 g2 r2 => ?_⟩) fun us s2 ⟨vs, H2, I2, r, q2⟩ => ⟨I2.kIn, ?_⟩) he hpl
  · refine ⟨F2, O2, P, ds, R, _, g2.mt, r2, q2, po.mt g2 (s1'.trans s2), fun cls fs O' F' H' dd q3 s3 g3 xd => ?_⟩
    exact (g3.re ((mxw X.K RX W).mono g2.rl s3 (Same.refl _))).wish q3 xd (en.mono (s1'.trans (s2.trans s3)))
  · exact run_fnS G hr hb (passAt tk σ) I2 r q2
end
def wHas (K : PySem.W.Frag) (c : Value) (i : Nat) (ts : TS) (Wo : WX) (D : Ends) : WX := fun cls d σ H =>
  ∃ b, PySem.W.exmOne K cls c = some b ∧
    (b = true → ∀ a, H a = none → ts { nx := fun τ H2 => D.nx (τ.set i none) H2, rt := D.rt, bk := fun τ H2 => D.bk (τ.set i none) H2, ct := fun τ H2 => D.ct (τ.set i none) H2 } (σ.set i (some (.ref a))) (upd H a (xO a cls d))) ∧
    (b = false → Wo cls d σ H)
section
variable {X : Cx} {x n : Str} {c : Value} {i : Nat} {body suite : List Stmt} {b₀ : Stmt} {np pos pos' : Pos} {tb : WX → TS} {ts : TS} {Wo : WX}
theorem ps_try_has (hx : X.ex = []) (stk : X.stack = X.env :: X.outer) (frm : X.env.frame = some X.env.locals) (nd : X.N.Nodup) (at_ : X.N[i]? = some n) (kd : X.env.kindOf n = some .local) (nm : Names X x c) (tk : Takes X Wo)
    (hb : ∀ (W : WX) (pn : List (Addr × Obj)) (xe : Value → Shared → Prop), Takes (X.tr pn xe) W → PassesOwn (model X.prog X.w) X.A X.env xe → PSs (X.tr pn xe) body (tb W))
    (hsu : ∀ (a : Addr) (pn : List (Addr × Obj)), PSs (X.suite a pn) (b₀ :: suite) ts) :
    PS X (.Try body [.ExceptHandler (some (.Name x np)) (some n) (b₀ :: suite) pos'] [] [] pos) (fun D σ H => tb (wHas X.K c i ts Wo D) D σ H) := by
  constructor
  intro pins s σ H D I h
  have xok := I.ok
  have frs_ : X.A.frames = some (X.env :: X.outer) := by rw [xok.frames, stk]
  apply wpAny_Try_except
  have B := hb (wHas X.K c i ts Wo D) (X.pn ++ pins) (fun e s₁ => wpAny (model X.prog X.w) X.A (noteFrame e X.env) (fun _ s₂ => wpAny (model X.prog X.w) X.A (setFlight e none)
    (fun _ s₃ => wpAny (model X.prog X.w) X.A (handleBy e X.env [.ExceptHandler (some (.Name x np)) (some n) (b₀ :: suite) pos']) (SP X pins D) X.xe s₃) X.xe s₂) X.xe s₁) ?lnd PassesOwn.looking
  case lnd =>
    rintro u t ⟨a, G, tI, pins2, τ, H2, cls, d, rfl, J2, nG, up, sky, fr, os, ag, b, m1, yes, no⟩
    have J := J2.ofTry xok
    rw [stk] at sky
    show wpAny (model X.prog X.w) X.A (noteFrame (.ref a) X.env) _ _ _
    refine Sky.land Zc.steady frs_ frm sky fun g3 F3 U3 => ?_
    have J3 : Inv X pins τ H2 { t with heap := g3 } := J.landed nG F3.1 (up.trans U3) os ag
    obtain ⟨o3, v3, e3, z3, d3⟩ := F3.there
    have offS : a ∉ frs (X.env :: X.outer) := fun q => by
      obtain ⟨_, o', e', nf⟩ := F3.2.2.1.mem q
      rw [e3] at e'; cases e'
      exact nf _ d3
    have offL : a ≠ X.env.locals := fun z => offS (List.mem_filterMap.mpr ⟨X.env, List.mem_cons_self, by rw [frm, z]⟩)
    have offF : a ∉ X.fs := fun q => by
      obtain ⟨e, he, k⟩ := List.mem_filterMap.mp q
      exact offS (List.mem_filterMap.mpr ⟨e, List.mem_cons_of_mem _ he, k⟩)
    have newI : tI.heap.get? a = none := by
      cases e : tI.heap.get? a with
      | none => rfl
      | some o =>
        have k := nG a o e (by rw [stk]; exact offS)
        rw [F3.2.1] at k; cases k
    have new0 : X.s_0.heap.get? a = none := by
      cases e : X.s_0.heap.get? a with
      | none => rfl
      | some o =>
        obtain ⟨o', k⟩ := J.base.there a o e (by rw [hx]; exact fun z => nomatch z)
        rw [newI] at k; cases k
    have newP : ∀ p ∈ X.pn ++ pins, p.1 ≠ a := fun p hp z => by
      have k := (J.pin p hp).1
      rw [z, newI] at k; cases k
    have S3 := J3.suite e3 d3 fr offL offF
    refine wpAny_handleBy_cons (codeAny_handlers_test ?_) (by intro q; cases q)
    have look : PySem.W.Looks (model X.prog X.w) g3 (typeOf (.ref a)) cls := fun A Q E s k q => wpAny_typeOf_ref (k _ _ e3) (by rw [z3.1]; exact q)
    have asked := PySem.W.exm_one (M := model X.prog X.w) J3.kIn look m1
    have named : ∀ {Q E : Value → Shared → Prop}, Q c { t with heap := g3 } → wpAny (model X.prog X.w) (X.A.mark (some (.ref a))) (eval (.Name x np) X.env) Q E { t with heap := g3 } := by
      intro Q E q
      obtain ⟨hg, hd, k | ⟨k, kb, kn⟩⟩ := nm
      · exact ld_glob (X := X.suite a ((a, o3) :: (X.pn ++ pins))) S3 hg k q hd
      · exact ld_blt (X := X.suite a ((a, o3) :: (X.pn ++ pins))) S3 hg k kb q kn hd
    refine named (asked.here ?_)
    cases b with
    | false =>
      show wpAny _ X.A (handleBy (.ref a) X.env []) _ _ _
      apply wpAny_handleBy_nil
      obtain ⟨_, _, _, oe, vs, Tb, oT, ts', he, _, hd, h1, _⟩ := id F3
      unfold PySem.passOn
      refine wpAny_bind (wpAny_field he hd h1 ?_)
      rw [if_neg (show ¬ ((Value.ref Tb == Value.none) = true) from by simp)]
      have out : wpAny (model X.prog X.w) X.A (setFlight (.ref a) X.env.frame) (fun _ s4 => wpAny (model X.prog X.w) X.A (throw (.ref a) : Sem Flow) (SP X pins D) X.xe s4) X.xe { t with heap := g3 } := by
        rw [frm]
        exact HandSPX.setFlight_upZ F3 fun h4 hh4 up4 => wpAny_throw (tk _ _ ⟨a, G, tI, pins, τ, H2, cls, d, rfl, J, nG, (up.trans U3).trans up4, .inr (.inr (by rw [stk]; exact hh4)), fr, os, ag, no rfl⟩)
      first
        | exact wpAny_bind (wpAny_pure (wpAny_bind out))
        | exact wpAny_bind out
    | true =>
      apply codeAny_handlers_suite_as
      refine HandSPX.lands_againZ F3 fun g4 F4 U4 => ?_
      have J4 : Inv X pins τ H2 { t with heap := g4 } := J.landed nG F4.1 ((up.trans U3).trans U4) os ag
      obtain ⟨o4, v4, e4, z4, d4⟩ := F4.there
      have S4 : Inv (X.suite a (X.pn ++ pins)) [] τ H2 { t with heap := g4 } := ⟨J4.ok.suite _ _, J4.os, J4.bare, J4.base, J4.loc, J4.cell, J4.free, J4.freeC, fun p hp => J4.pin p (by rw [List.append_nil] at hp; exact hp), J4.hok, J4.len⟩
      have T4 := Inv.track (o := xO a cls d) S4 e4 d4 fr new0 (fun p hp => newP p (by rw [List.append_nil] at hp; exact hp)) (xO_ok e4 z4 d4)
      have un : ∀ {τ6 H6 s6}, Inv (X.suite a (X.pn ++ pins)) [] τ6 H6 s6 → Inv X pins τ6 H6 s6 := fun I => ⟨xok, I.os, I.bare, I.base, I.loc, I.cell, I.free, I.freeC, fun p hp => I.pin p (List.mem_append_left _ hp), I.hok, I.len⟩
      refine store_ok (X := X.suite a (X.pn ++ pins)) (v := .ref a) T4 nd at_ (.inl kd) rfl (fun t5 S5 => ?_) (.inr kd)
      refine wpAny_mono ((hsu a (X.pn ++ pins)).run [] t5 _ _ _ S5 (yes rfl a fr)) (fun f t6 hsp => ?_) (fun _ _ z => False.elim z)
      cases f with
      | next =>
        obtain ⟨τ6, H6, S6, q6⟩ := hsp
        exact gone_ok (un S6) nd at_ kd fun t7 K7 => ⟨_, _, K7, q6⟩
      | brk =>
        obtain ⟨τ6, H6, S6, q6⟩ := hsp
        exact gone_ok (un S6) nd at_ kd fun t7 K7 => ⟨_, _, K7, q6⟩
      | cont =>
        obtain ⟨τ6, H6, S6, q6⟩ := hsp
        exact gone_ok (un S6) nd at_ kd fun t7 K7 => ⟨_, _, K7, q6⟩
      | ret u =>
        obtain ⟨v6, τ6, H6, S6, r6, q6⟩ := hsp
        exact gone_ok (un S6) nd at_ kd fun t7 K7 => ⟨_, _, _, K7, r6, q6⟩
  refine wpAny_mono (B.run [] s σ H D (I.toTry _) h) (fun f s1 hsp => ?_) (fun e s1 he => he)
  cases f with
  | next =>
    obtain ⟨τ, H2, J, q⟩ := hsp
    exact wpAny_execs_nil ⟨τ, H2, J.ofTry xok, q⟩
  | brk =>
    obtain ⟨τ, H2, J, q⟩ := hsp
    exact ⟨τ, H2, J.ofTry xok, q⟩
  | cont =>
    obtain ⟨τ, H2, J, q⟩ := hsp
    exact ⟨τ, H2, J.ofTry xok, q⟩
  | ret u =>
    obtain ⟨v, τ, H2, J, r, q⟩ := hsp
    exact ⟨v, τ, H2, J.ofTry xok, r, q⟩
end
/-! ### a caught exception held in the suite -/
def endsHas (i : Nat) (R : DEnds) : DEnds := { nx := fun ρ O => R.nx (ρ.set i none) O, rt := R.rt, bk := fun ρ O => R.bk (ρ.set i none) O, ct := fun ρ O => R.ct (ρ.set i none) O }
def xHs (K : PySem.W.Frag) (c : Value) (i : Nat) (gs : GS) (RXo : XW) (R : DEnds) : XW := fun cls fs ρ O => ∃ b, PySem.W.exmOne K cls c = some b ∧
  (b = true → ∀ a, O a = none → gs (endsHas i R) (ρ.set i (some (.ref a))) (updO O a (.exc cls fs))) ∧ (b = false → RXo cls fs ρ O)
/-- try: .. except C as n: .. where n is a thing like any other -/
def gTryHs (K : PySem.W.Frag) (c : Value) (i : Nat) (gb : XW → GS) (gs : GS) (RXo : XW) : GS := fun R ρ O => gb (xHs K c i gs RXo R) R ρ O
section
variable {X : Cx} {x n : Str} {c : Value} {i : Nat} {body suite : List Stmt} {b₀ : Stmt} {np pos pos' : Pos} {gb : XW → GS} {gs : GS} {RXo : XW} {Wo : WX}
theorem ds_try_has (hN : X.N.Nodup) (hi : X.N[i]? = some n) (hln : X.env.kindOf n = some .local) (hc : Names X x c) (tk : Takes X Wo) (ho : Outs M X.K RXo Wo)
    (hb : ∀ (RX : XW) (W : WX) (pn : List (Addr × Obj)) (xe : Value → Shared → Prop), Takes (X.tr pn xe) W → PassesOwn (model X.prog X.w) X.A X.env xe → DSs (mxw X.K RX W) (X.tr pn xe) body (gb RX))
    (hsu : ∀ (a : Addr) (pn : List (Addr × Obj)), DSs M (X.suite a pn) (b₀ :: suite) gs)
    (hx : X.ex = [] := by rfl) (hs : X.stack = X.env :: X.outer := by rfl) (hf : X.env.frame = some X.env.locals := by rfl) :
    DS M X (.Try body [.ExceptHandler (some (.Name x np)) (some n) (b₀ :: suite) pos'] [] [] pos) (gTryHs X.K c i gb gs RXo) :=
  psMono (ps_try_has (tb := fun W => liftSW X.K W gb) (ts := liftS M X.K gs) hx hs hf hN hi hln hc tk (fun W pn xe tk' ps => pss_sw (X := X.tr pn xe) fun RX => hb RX W pn xe tk' ps)
    (fun a pn => hsu a pn)) fun D σ H h => by
  obtain ⟨F, O, P, ρ, R, g, en, q, po⟩ := h
  refine ⟨_, F, O, P, ρ, R, g.re ⟨P, Same.refl _, fun cls fs ρ' O' F' H' dd σ' q1 s1 g1 xd en1 => ?_⟩, en, q, po.re g⟩
  obtain ⟨b, hb1, hb2, hb3⟩ := q1
  have gM := g1.re (M' := M) (M.mono g.rl s1 (Same.refl _))
  refine ⟨b, hb1, fun hbt a ha => ?_, fun hbf => ho F' O' P H' cls fs ρ' dd σ' gM (hb3 hbf) xd en1⟩
  have z := hb2 hbt a (g1.freeO ha)
  refine ⟨F', updO O' a (.exc cls fs), P, ρ'.set i (some (.ref a)), _, gM.newO (o := xO a cls dd) (c := .exc cls fs) ha ⟨_, dd, upd_same, xO_is, xd⟩, en1.set (by simp only [Rep]) i, z, ⟨fun ρ3 O3 F3 H3 σ3 q3 s3 g3 en3 => ?_, fun d3 O3 F3 H3 v3 q3 s3 g3 r3 => ?_, fun ρ3 O3 F3 H3 σ3 q3 s3 g3 en3 => ?_, fun ρ3 O3 F3 H3 σ3 q3 s3 g3 en3 => ?_⟩⟩
  · exact po.nx _ _ F3 _ _ q3 (s1.trans s3) g3 (en3.wipe i)
  · exact po.rt _ O3 F3 H3 _ q3 (s1.trans s3) g3 r3
  · exact po.bk _ O3 F3 H3 _ q3 (s1.trans s3) g3 (en3.wipe i)
  · exact po.ct _ O3 F3 H3 _ q3 (s1.trans s3) g3 (en3.wipe i)
end
theorem ap_gTryHs (K : PySem.W.Frag) (c : Value) (i : Nat) (gb : XW → GS) (gs : GS) (RXo : XW) {R : DEnds} {ρ : DEnv} {O : Ow} : gTryHs K c i gb gs RXo R ρ O = gb (xHs K c i gs RXo R) R ρ O := rfl
theorem ap_fCallE (S : Addr → DSp → Prop) (fe : FE) (fr : FA) {ρ : DEnv} {O : Ow} {Q : VD} : fCallE S fe fr ρ O Q = fe ρ O fun d O1 => ∃ f sp, d = .ref f ∧ S f sp ∧ fr ρ O1 fun ds O2 => sp ds O2 Q X0 := rfl
theorem ap_fCallEX (S : Addr → DSp → Prop) (RX : XW) (fe : FE) (fr : FA) {ρ : DEnv} {O : Ow} {Q : VD} : fCallEX S RX fe fr ρ O Q = fe ρ O fun d O1 => ∃ f sp, d = .ref f ∧ S f sp ∧ fr ρ O1 fun ds O2 => sp ds O2 Q fun cls fs O' => RX cls fs ρ O' := rfl
theorem rFnEq_r {K : PySem.W.Frag} {neg : Bool} {f g : Addr} {O : Ow} {Q : VD} (hf : PySem.W.isFn K (.ref f) = true) (hg : PySem.W.isFn K (.ref g) = true) (h : Q (.bl (neg ^^ decide (f = g))) O) : rFnEq K neg (.ref f) (.ref g) O Q := ⟨f, g, rfl, rfl, hf, hg, h⟩
/-! ### a def that is called while an exception is handled -/
structure RoomC (k : Nat) (A : Around) : Prop where
  dp : A.depth + 3 * k + 5 < recursionLimit
  un : A.units + 16 * k + 200 < cLine
theorem RoomC.deeper {k : Nat} {A : Around} (r : RoomC (k + 1) A) (env : Env) : RoomC k (A.deeper env) :=
  ⟨by have := r.dp; show A.depth + 1 + 3 * k + 5 < _; omega, by have := r.un; show A.units + 3 + 16 * k + 200 < _; omega⟩
theorem roomC_mark {k : Nat} {A : Around} (r : Room k A) (h : Option Value) : RoomC k (A.mark h) := ⟨r.dp, r.un⟩
structure FnC (P : Program) (w : World) (K : PySem.W.Frag) (mg : Str → Option Value) (base : Heap) (CX : CXT) (k : Nat) (f : Addr) (fd : FuncData) (ps : List Str) (sp : Sp) : Prop where
  len : ∀ vs H Q E, sp vs H Q E → vs.length = ps.length
  run : ∀ (A : Around) (outer : List Env) (s : Shared) (H : Hp) (args : Args) (us : List Value) (vs : List V) (Q : VK) (E : XK), RoomC k A → Env0 P w K mg base A outer s H → BindsTo s fd args (ps.zip us) → Vals vs us → sp vs H Q E →
    codeAny (model P w) A (.call (.ref f) args) (CR CX outer P w H s Q E) s
def cxC (CX : CXT) (P : Program) (w : World) (K : PySem.W.Frag) (mg : Str → Option Value) (base : Heap) (N : List Str) (qual : Str) (scope : Scope) (f : Addr) (cd : Value) (A : Around) (outer : List Env) (s : Shared) (H : Hp) (E : XK) : Cx :=
  { cxOf CX P w K mg base N qual scope f cd A outer s H E with calm := false }
theorem inv_startC {CX : CXT} {P : Program} {w : World} {K : PySem.W.Frag} {mg : Str → Option Value} {base : Heap} {N ps : List Str} {qual : Str} {scope : Scope} {f : Addr} {cd : Value} {A : Around} {outer : List Env} {s s1 : Shared} {H : Hp} {E : XK} {us : List Value} {vs : List V}
    (S : FnScope N ps scope) (e0 : Env0 P w K mg base A outer s H) (hl : vs.length = ps.length) (r : Vals vs us)
    (x : InCallC s s.heap.objs.size (bindL (envOfC qual scope s.heap.objs.size f cd).kindOf (ps.zip us) fun _ => none) (cellsFrom (s.heap.objs.size + 1) scope.names []) (bindC (envOfC qual scope s.heap.objs.size f cd).kindOf (ps.zip us) fun _ => none) s1) :
    Inv (cxC CX P w K mg base N qual scope f cd A outer s H E) [] (L2.start N vs) H s1 := by
  have hpl : ps.length ≤ N.length := by have := congrArg List.length S.pre; rw [List.length_take] at this; omega
  obtain ⟨h1, tk, rfl, hk⟩ := x.done
  have noA : ∀ b : Addr, b ∉ (cxC CX P w K mg base N qual scope f cd A outer s H E).ex := fun b z => absurd (show b ∈ ([] : List Addr) from z) (by simp)
  refine ⟨⟨e0.mod, S.kind, rfl, rfl, Nat.le_refl _, fun y z c h1 h2 => ?_, fun y hy => ?_, fun y c _ h => ?_, (fun z => Bool.noConfusion (show false = true from z)), Around.frames_deeper e0.frames, .inr ⟨rfl, rfl⟩, fun b z => absurd z (noA b), e0.bs, e0.bsz, fun b _ _ => noA b, fun b z => absurd z (noA b), e0.funs, e0.frf⟩,
    rfl, e0.bare, Un.kept hk, ⟨_, x.toInCall.ns, fun i y v h1 h2 h3 => ?_⟩, fun y c h => ⟨_, x.cell y c h⟩, e0.hok.fresh (Nat.le_refl _), fun y c h => ?_, fun q hq => ?_, e0.hok.kept hk, ?_⟩
  · exact name_of_addr x.apart (PySem.mem_of_lookup h1) (PySem.mem_of_lookup h2)
  · have hy : scope.names.lookup y = some .cell ∨ scope.names.lookup y = some .free := hy
    rcases hy with hy | hy
    · exact cell_has hy
    · exact absurd rfl (S.nofree _ (PySem.mem_of_lookup hy))
  · exact Nat.le_of_lt (x.above y c (PySem.mem_of_lookup h))
  · have hi : i < vs.length := by
      unfold L2.start at h2
      by_cases hi : i < vs.length
      · exact hi
      · rw [List.getElem?_append_right (by simpa using hi)] at h2
        rw [List.getElem?_replicate] at h2
        split at h2 <;> cases h2
    have ha : vs[i]? = some v := by
      unfold L2.start at h2
      rw [List.getElem?_append_left (by simpa using hi), List.getElem?_map] at h2
      cases e : vs[i]? with
      | none => rw [e] at h2; cases h2
      | some a => rw [e] at h2; cases h2; rfl
    obtain ⟨u, hu, rv⟩ := r.get ha
    have hp : ps[i]? = some y := by
      rw [← S.pre, List.getElem?_take_of_lt (by omega)]; exact h1
    have ndP : ps.Nodup := by rw [← S.pre]; exact S.nd.sublist (List.take_sublist _ _)
    refine ⟨u, rv, ?_⟩
    rcases S.par y (List.mem_of_getElem? hp) with k | k
    · exact .inl ⟨k, bindL_get ndP hp hu k⟩
    · obtain ⟨c, e⟩ := cell_has (n := s.heap.objs.size + 1) k
      refine .inr ⟨.inl k, c, e, ?_⟩
      have q := x.cell y c e
      rw [bindC_get ndP hp hu (by show scope.names.lookup y ≠ _; rw [k]; decide)] at q
      exact q
  · exact e0.hok.fresh (Nat.le_of_lt (x.above y c (PySem.mem_of_lookup h)))
  · exact absurd (show q ∈ ([] : List (Addr × Obj)) from hq) (by simp)
  · unfold L2.start
    show _ = N.length
    rw [List.length_append, List.length_map, List.length_replicate]
    omega
section
variable {P : Program} {w : World} {K : PySem.W.Frag} {mg : Str → Option Value} {base : Heap}
theorem fun_okC {x qual : Str} {st : Stmt} {f : Addr} {fd : FuncData} {N ps : List Str} {k : Nat} {sp : Sp} (F : Fun K x qual st f fd) (S : FnScope N ps (defScope st)) (len : ∀ vs H Q E, sp vs H Q E → vs.length = ps.length)
    (hbody : ∀ (cdv : Value) (A : Around) (outer : List Env) (s : Shared) (H : Hp) (vs : List V) (Q : VK) (E : XK), RoomC k (A.deeper (envOfC qual (defScope st) s.heap.objs.size f cdv)) → sp vs H Q E →
      ∃ t, PSs (cxC CX0 P w K mg base N qual (defScope st) f cdv A outer s H E).nox (defBody st) t ∧ t { nx := fun _ H' => Q .non H', rt := Q } (L2.start N vs) H) : FnC P w K mg base CX0 (k + 1) f fd ps sp := by
  obtain ⟨oc, od, kV, doc, pm, an, cdv, ct, osl, rfl, lk, hcd⟩ := F.ex
  refine ⟨len, fun A outer s H args us vs Q E hr e0 hb r hsp => ?_⟩
  have hl := len _ _ _ _ hsp
  have KX : K.In s.heap := e0.mod.kin.keeps fun b o e => (e0.bs b o e).1
  have lim : s.heap.NoLimit := e0.mod.nolimit.keeps fun b o e => (e0.bs b o e).1
  have hkind : ∀ y ∈ ps.zip us, (defScope st).names.lookup y.1 = some .local ∨ ((defScope st).names.lookup y.1 = some .cell ∧ ((cellsFrom (s.heap.objs.size + 1) (defScope st).names []).lookup y.1).isSome = true) := fun ⟨n, v⟩ hy => by
    rcases S.par n (List.of_mem_zip hy).1 with q | q
    · exact .inl q
    · exact .inr ⟨q, PySem.W.cellsFrom_some _ _ _ (.inl q)⟩
  refine codeAny_call_function (by have := hr.dp; omega) (KX _ _ lk) rfl S.co S.gen rfl (PySem.W.codeRec_of KX hcd) (hb _ _ _ _ ?_)
  refine wpAny_newFunctionEnv_cells S.kind hkind fun env he s1 x => ?_
  subst he
  refine ⟨lim.keeps x.toInCall.keep, codeAny_func ?_⟩
  obtain ⟨t, ht, hq⟩ := hbody cdv A outer s H vs Q E (hr.deeper _) hsp
  have I : Inv (cxC CX0 P w K mg base N qual (defScope st) f cdv A outer s H E) [] (L2.start N vs) H s1 := inv_startC S e0 hl r x
  refine wpAny_mono (ht.nox.run [] s1 (L2.start N vs) H _ I hq) (fun fl s' hs => ?_) fun e s' hs => hs
  have fin : ∀ {σ' : St} {H' : Hp} {v : V} {u : Value}, Inv (cxC CX0 P w K mg base N qual (defScope st) f cdv A outer s H E) [] σ' H' s' → RelV v u → Q v H' → CE outer P w H s Q u s' :=
    fun {σ' H' v u} J rv q => ⟨v, H', J.os, J.bare, J.base, J.hok, rv, q⟩
  cases fl with
  | ret u =>
    obtain ⟨v, σ', H', J, rv, q⟩ := hs
    exact fin J rv q
  | next =>
    obtain ⟨σ', H', J, q⟩ := hs
    exact fin (v := V.non) (u := Value.none) J rfl q
  | brk =>
    obtain ⟨_, _, _, q⟩ := hs
    exact False.elim q
  | cont =>
    obtain ⟨_, _, _, q⟩ := hs
    exact False.elim q
theorem fn_dC {x qual : Str} {st : Stmt} {f : Addr} {fd : FuncData} {N ps : List Str} {k : Nat} {dsp : DSp} {g : GS} (F : Fun K x qual st f fd) (S : FnScope N ps (defScope st)) (len : ∀ ds O R RE, dsp ds O R RE → ds.length = ps.length)
    (hder : ∀ (cdv : Value) (A : Around) (outer : List Env) (s : Shared) (H : Hp) (E : XK), RoomC k (A.deeper (envOfC qual (defScope st) s.heap.objs.size f cdv)) →
      DSs MT (cxC CX0 P w K mg base N qual (defScope st) f cdv A outer s H E).nox (defBody st) g)
    (hread : ∀ ds O R RE, dsp ds O R RE → g { nx := fun _ O' => R .non O', rt := R } (startD N ds) O) : FnC P w K mg base CX0 (k + 1) f fd ps (liftSp K dsp) := by
  refine fun_okC F S (fun vs H Q E h => ?_) fun cdv A outer s H vs Q E hr h => ?_
  · obtain ⟨F, O, P, ds, R, RE, g, r, q, _⟩ := h
    rw [← r.length]; exact len ds O R RE q
  · obtain ⟨F, O, P, ds, R, RE, gd, r, q, po, _⟩ := h
    refine ⟨_, hder cdv A outer s H E hr, F, O, P, startD N ds, { nx := fun _ O' => R .non O', rt := R }, gd, ?_, hread ds O R RE q, ⟨fun ρ O' F' H' σ q1 s1 g1 _ => ?_, po, fun _ _ _ _ _ z => z.elim, fun _ _ _ _ _ z => z.elim⟩⟩
    · unfold startD L2.start
      rw [r.length]
      exact envOk_start _ r
    · exact po .non O' F' H' .non q1 s1 g1 (by simp only [Rep])
end
section
variable {X : Cx} {e : Expr} {es : List Expr} {fr : FA} {k : Nat} {f : Addr} {fd : FuncData} {ps : List Str} {dsp : DSp} {x : Str} {st : Stmt} {p pos : Pos}
theorem de_callC (N : Fn X.K X.mg x st ps f fd) (G : FnC X.prog X.w X.K X.mg X.base CX0 k f fd ps (liftSp X.K dsp)) (hr : RoomC k X.A) (hg : Gl X x)
    (ha : DA M X (e :: es) fr) (hdb : (x == ("__debug__" : Str)) = false := by decide) (he : starEach (e :: es) X.env = (false, eval e X.env) :: starEach es X.env := by rfl) (hpl : (backTo pos (starEach es X.env)).any (·.1) = false := by rfl) :
    DE M X (.Call (.Name x p) (e :: es) [] pos) (fCall dsp fr) := by
  refine ⟨fun pins s σ H Q I h => ?_⟩
  obtain ⟨F, O, P, ρ, R, g, en, q, po⟩ := h
  refine wpAny_Call_Name_kw (ld_glob I hg N.m ?_ hdb)
  refine PySem.W.callWith_K (h₀ := X.base) I.ok.mod.kin N.F.kp (thn (ha.run pos pins s σ H (fun vs H1 => liftSp X.K dsp vs H1 Q E0) I ⟨F, O, P, ρ, _, g, en, q, fun ds O1 F1 H1 vs q1 s1 g1 r1 => ⟨F1, O1, P, ds, R, X0, g1.mt, r1, q1, po.mt g1 s1, fun _ _ _ _ _ _ z => z.elim⟩⟩) fun us s1 ⟨vs, H1, I1, r, q2⟩ => ⟨I1.kIn, ?_⟩) he hpl
  have hl : us.length = ps.length := by rw [← r.length]; exact G.len _ _ _ _ q2
  have b := N.b s1 us I1.kIn (by rw [List.append_nil]; exact hl)
  rw [List.append_nil] at b
  refine wpAny_call (codeAny_mono (G.run X.A X.stack s1 H1 ⟨us, []⟩ us vs Q E0 hr I1.env0 b r q2) fun r s' hq => ?_)
  cases r with
  | error e => exact pass0 pins σ H1 s1 e s' I1 hq
  | ok fl =>
    cases fl with
    | ret u => exact I1.after hq
    | next => exact False.elim hq
    | brk => exact False.elim hq
    | cont => exact False.elim hq
end
end Kf
set_option maxHeartbeats 1000000
/-! Dl27: exceptions made as values, with and without an own __init__ that keeps one field; the latter raised. -/
namespace Kf
open PySem PySem.Spec L2
open PyProof.Rows hiding St
variable {M : MX}
/-! ### without an own __init__ -/
theorem exO_is {a : Addr} {cls : Value} : IsX a cls none (ExO cls a) := ⟨_, rfl, fun h ⟨oe, vs, h1, h2, h3, _⟩ => ⟨oe, vs, h1, h2, h3⟩⟩
def fMkE (C : Addr) (fe : FE) : FE := fun ρ O Q => fe ρ O fun _ O1 => ∀ a, O1 a = none → Q (.ref a) (updO O1 a (.exc (.ref C) none))
section
variable {X : Cx} {e : Expr} {fe : FE} {x : Str} {C : Addr} {p pos : Pos}
theorem de_mkE (N : ExN X.K X.mg x C) (hg : Gl X x) (he : DE M X e fe) (hs : starEach [e] X.env = (false, eval e X.env) :: starEach [] X.env := by rfl) (hdb : (x == ("__debug__" : Str)) = false := by decide) :
    DE M X (.Call (.Name x p) [e] [] pos) (fMkE C fe) := peMono (pe_exc1 PySem.F.excBase_ValueError N.ex N.g N.kp hg he hs hdb) fun σ H Q h => by
  obtain ⟨F, O, P, ρ, R, g, en, q, po⟩ := h
  exact ⟨F, O, P, ρ, _, g, en, q, fun x O1 F1 H1 v q1 s1 g1 r1 a ha => po _ _ F1 _ _ (q1 a (g1.freeO ha)) s1 (g1.newO ha ⟨_, none, upd_same, exO_is, rfl⟩) (by simp only [Rep])⟩
end
/-! ### with an own __init__ -/
/-- the base class of all own exceptions: its __init__ is ValueError's -/
structure BaseX (K : PySem.W.Frag) (mg : Str → Option Value) (x : Str) (B : Addr) : Prop where
  g : mg x = some (.ref B)
  sp : PySem.W.specialIn K (.ref B) "__getattribute__" = some (some (.builtin "type.__getattribute__"))
  ty : PySem.W.typeIn K (.ref B) = some (.type "type")
  rd : PySem.W.readsIn K B (.type "type") = true
  fc : PySem.W.findCls K (.ref B) (.type "type") "__init__" = some (.val (.builtin "ValueError.__init__"))
section
variable {X : Cx} {e : Expr} {es : List Expr} {ta : TA} {x : Str} {B : Addr} {p1 p2 pos : Pos}
theorem pe_binit {pl : Sem Bool} (b : BaseX X.K X.mg x B) (hg : Gl X x) (ha : PA X (e :: es) ta) (hdb : (x == ("__debug__" : Str)) = false := by decide)
    (hc : eval (.Call (.Attribute (.Name x p1) "__init__" p2) (e :: es) [] pos) X.env = (do
      let ov ← eval (.Name x p1) X.env
      standAt p2.atName
      let (f, first) ← holding [ov] (getMethod ov "__init__" pl)
      callWith pos f first (backTo pos (starEach (e :: es) X.env)) (backToKw pos (keywordEach [] X.env))) := by rfl)
    (he : starEach (e :: es) X.env = (false, eval e X.env) :: starEach es X.env := by rfl) (hpl : (backTo pos (starEach es X.env)).any (·.1) = false := by rfl) :
    PE X (.Call (.Attribute (.Name x p1) "__init__" p2) (e :: es) [] pos) (tVeI X.K ta) := by
  refine ⟨fun pins s σ H Q I h => ?_⟩
  refine PySem.W.methodCall_KW (ld_glob I hg b.g ?_ hdb) hc
  obtain ⟨m, fr⟩ := I.fr
  refine PySem.W.method_of_cls fr I.ok.mod.kin b.sp (PySem.W.cls_val fr I.ok.mod.kin b.ty b.rd b.fc (by decide +kernel) ?_)
  show wpAny _ _ (callWith pos (Value.builtin "ValueError.__init__") [] (backTo pos (starEach (e :: es) X.env)) []) _ _ _
  refine PyProof.Rows.callWith_method1 (thn (ha.run pos pins _ σ H _ (I.tok _) h) fun us s1 ⟨vs, H1, I1, r1, a, C, ws, ev, hl, T, ea, q⟩ => ?_) he hpl
  subst ev
  cases r1 with
  | @cons _ u0 _ ur ra rw' =>
    obtain rfl : u0 = Value.ref a := ra
    have hlen : ur.length ≤ sizeLine := by
      rw [← Paired.length rw', sizeLine_eq]
      omega
    exact oinit_ok T I1 ea hlen fun s' J => ⟨.non, H1, J, rfl, q⟩
end
/-- what such an __init__ does: the field f is kept -/
def spI (C : Addr) (f : Str) : Sp := fun vs H Q _ => ∃ a y, vs = [.ref a, y] ∧ H a = some (exo a C none) ∧ ∀ dx, H dx = none → dx ≠ a → Q .non (upd (upd H dx (exd dx [(f, y)])) a (exo a C (some dx)))
/-- an own class of exceptions whose __init__ keeps what it is given as the field f -/
structure ExI (K : PySem.W.Frag) (mg : Str → Option Value) (x f : Str) (C fI : Addr) (fd : FuncData) (qual : Str) (st : Stmt) (ps : List Str) : Prop where
  T : OexC K C
  g : mg x = some (.ref C)
  iC : PySem.W.findIn K (.ref C) "__init__" = some (some (.ref fI))
  tI : PySem.W.typeIn K (.ref fI) = some (.type "function")
  no : PySem.W.findIn K (.ref C) f = some none
  F : Fun K "__init__" qual st fI fd
  b : Binds K fd ps []
section
variable {X : Cx} {CX : CXT} {e : Expr} {es : List Expr} {ta : TA} {x f : Str} {C fI : Addr} {fd : FuncData} {qual : Str} {st : Stmt} {ps : List Str} {k : Nat} {p pos : Pos}
theorem pe_mkI (N : ExI X.K X.mg x f C fI fd qual st ps) (F1 : FnOk X.prog X.w X.K X.mg X.base CX0 k fI fd ps (spI C f)) (hr : Room (k + 1) X.A) (hg : Gl X x) (ha : PA X (e :: es) ta)
    (hdb : (x == ("__debug__" : Str)) = false := by decide) (he : starEach (e :: es) X.env = (false, eval e X.env) :: starEach es X.env := by rfl) (hpl : (backTo pos (starEach es X.env)).any (·.1) = false := by rfl) :
    PE X (.Call (.Name x p) (e :: es) [] pos) (fun σ H Q => ta σ H fun vs H1 => ∃ y, vs = [y] ∧ ∀ dx, H1 dx = none → ∀ a, upd H1 dx (.xd [(f, y)]) a = none → Q (.ref a) (upd (upd H1 dx (.xd [(f, y)])) a (xO a (.ref C) (some dx)))) := by
  refine ⟨fun pins s σ H Q I h => ?_⟩
  have T := N.T
  obtain ⟨nm, q, N', bs, bm, sn, sub, ab, col, dd, k0, k1, k2, k3, k5, hC, hbm⟩ := T.cls
  refine wpAny_Call_Name_kw (ld_glob I hg N.g ?_ hdb)
  refine PySem.W.callWith_K (h₀ := X.base) I.ok.mod.kin T.kC (thn (ha.run pos pins s σ H _ I h) fun us s1 ⟨vs, H1, I1, r1, y, ey, q1⟩ => ⟨I1.kIn, ?_⟩) he hpl
  subst ey
  show wpAny _ _ (call (.ref C) us) _ _ _
  obtain ⟨hp, g, dr, tk, os⟩ := s1
  have hsz : hp.objs.size ≤ hp.objs.size + 1 := Nat.le_succ _
  have hn : H1 (hp.objs.size + 1) = none := I1.hok.fresh hsz
  have kk : ∀ b o, hp.get? b = some o → ((hp.push (PySem.W.kdv_tup us)).push (PySem.HandSPX.excO C hp.objs.size)).get? b = some o := fun b o e => Heap.get?_push_of_some _ (Heap.get?_push_of_some _ e)
  have hget : ((hp.push (PySem.W.kdv_tup us)).push (PySem.HandSPX.excO C hp.objs.size)).get? (hp.objs.size + 1) = some (PySem.HandSPX.excO C hp.objs.size) := by heap_get
  have I2 : Inv X pins σ (upd H1 (hp.objs.size + 1) (exo (hp.objs.size + 1) C none)) ⟨(hp.push (PySem.W.kdv_tup us)).push (PySem.HandSPX.excO C hp.objs.size), g, dr, tk, os⟩ :=
    I1.laid (t' := tk) (a := hp.objs.size + 1) (o := exo (hp.objs.size + 1) C none) (h' := (hp.push (PySem.W.kdv_tup us)).push (PySem.HandSPX.excO C hp.objs.size)) kk hsz (exo_ok hget)
  have r2 : Vals (V.ref (hp.objs.size + 1) :: ([y] ++ [])) (Value.ref (hp.objs.size + 1) :: (us ++ [])) := .cons rfl (r1.append .nil)
  have hq : spI C f (V.ref (hp.objs.size + 1) :: ([y] ++ [])) (upd H1 (hp.objs.size + 1) (exo (hp.objs.size + 1) C none))
      (fun v H2 => v = .non ∧ ∃ d, d ≠ hp.objs.size + 1 ∧ H1 d = none ∧ H2 = upd (upd (upd H1 (hp.objs.size + 1) (exo (hp.objs.size + 1) C none)) d (exd d [(f, y)])) (hp.objs.size + 1) (exo (hp.objs.size + 1) C (some d))) (fun _ _ _ => False) :=
    ⟨_, _, rfl, upd_same, fun dx h1 h2 => ⟨rfl, dx, h2, by rw [upd_ne h2] at h1; exact h1, rfl⟩⟩
  have hl : (Value.ref (hp.objs.size + 1) :: us ++ []).length = ps.length := by
    have e := r2.length
    rw [F1.len _ _ _ _ hq] at e
    exact e.symm
  have hus : us.length ≤ sizeLine := by
    rw [← Paired.length r1, sizeLine_eq]
    simp
  have hbb : ∀ {s0 : Shared}, X.K.In s0.heap → (Value.ref (hp.objs.size + 1) :: us ++ []).length = ps.length → BindsTo s0 fd ⟨Value.ref (hp.objs.size + 1) :: us, []⟩ (ps.zip (Value.ref (hp.objs.size + 1) :: (us ++ []))) := fun k l => N.b _ (Value.ref (hp.objs.size + 1) :: us) k l
  refine wpAny_call (PySem.HandSPX.call_own F.excBase_ValueError (fun Y => PySem.HandSPX.refsVE_contains Y bm hbm) (I1.kIn _ _ hC) (PySem.W.looks_findIn I1.kIn N.iC) (fun self => PySem.W.bind_fn I1.kIn self N.tI) hus
    (codeAny_mono (F1.run _ X.stack _ _ ⟨Value.ref (hp.objs.size + 1) :: us, []⟩ (Value.ref (hp.objs.size + 1) :: (us ++ [])) _ _ (fun _ _ _ => False) (hr.make C us []) (I2.env0.make C us []) (hbb I2.kIn hl) r2 hq) fun r s' hq' => ?_))
  cases r with
  | error er => exact pass0 pins _ _ _ er s' I2 hq'
  | ok fl =>
    cases fl with
    | ret u =>
      obtain ⟨v, H2, os2, bare2, un2, hok2, rv, ev, d, hda, hd1, eH⟩ := hq'
      subst ev
      obtain ⟨h2, g2, d2, t2, os'⟩ := s'
      refine ⟨rv, ?_⟩
      have ea : H2 (hp.objs.size + 1) = some (exo (hp.objs.size + 1) C (some d)) := by rw [eH, upd_same]
      have ed : H2 d = some (exd d [(f, y)]) := by rw [eH, upd_ne hda, upd_same]
      obtain ⟨t0, G, J, kG, ge, hoe, na⟩ := mk_end0 (d2 := d2) (t2 := t2) I1 hsz kk un2 hok2 os2 bare2 ea ed hd1
      have eJ : upd (del H2 (hp.objs.size + 1)) d (.xd [(f, y)]) = upd H1 d (.xd [(f, y)]) := by
        funext b
        by_cases hb : b = d
        · rw [hb, upd_same, upd_same]
        · rw [upd_ne hb, upd_ne hb]
          by_cases hc : b = hp.objs.size + 1
          · rw [hc, del_same, hn]
          · rw [del_ne hc, eH, upd_ne hc, upd_ne hb, upd_ne hc]
      rw [eJ] at J na
      exact ⟨.ref (hp.objs.size + 1), _, Inv.laidN (t' := t2) (h' := h2) (o := xO (hp.objs.size + 1) (.ref C) (some d)) J kG ge na (xO_ok hoe ⟨rfl, rfl⟩ rfl), rfl, q1 d hd1 _ na⟩
    | next => exact False.elim hq'
    | brk => exact False.elim hq'
    | cont => exact False.elim hq'
end
section
variable {X : Cx} {e : Expr} {es : List Expr} {fr : FA} {x f : Str} {C fI : Addr} {fd : FuncData} {qual : Str} {st : Stmt} {ps : List Str} {k : Nat} {p pos pos' : Pos} {RX : XW} {W : WX}
def fMkI (C : Addr) (f : Str) (fr : FA) : FE := fun ρ O Q => fr ρ O fun ds O1 => ∃ d, ds = [d] ∧ ∀ a, O1 a = none → Q (.ref a) (updO O1 a (.exc (.ref C) (some [(f, d)])))
theorem rep_one {K : PySem.W.Frag} {F : Hp} {d : D} {vs : List V} (h : RepAll K F [d] vs) : ∃ v, vs = [v] ∧ Rep K F d v := by
  have hl := h.length
  match vs, hl, h with
  | [v], _, h => exact ⟨v, rfl, by obtain ⟨w, h1, h2⟩ := h.get (i := 0) rfl; cases h1; exact h2⟩
theorem de_mkI (N : ExI X.K X.mg x f C fI fd qual st ps) (F1 : FnOk X.prog X.w X.K X.mg X.base CX0 k fI fd ps (spI C f)) (hr : Room (k + 1) X.A) (hg : Gl X x) (ha : DA M X (e :: es) fr)
    (hdb : (x == ("__debug__" : Str)) = false := by decide) (he : starEach (e :: es) X.env = (false, eval e X.env) :: starEach es X.env := by rfl) (hpl : (backTo pos (starEach es X.env)).any (·.1) = false := by rfl) :
    DE M X (.Call (.Name x p) (e :: es) [] pos) (fMkI C f fr) := peMono (pe_mkI N F1 hr hg ha hdb he hpl) fun σ H Q h => by
  obtain ⟨F, O, P, ρ, R, g, en, q, po⟩ := h
  refine ⟨F, O, P, ρ, _, g, en, q, fun ds O1 F1 H1 vs q1 s1 g1 r1 => ?_⟩
  obtain ⟨d, rfl, q2⟩ := q1
  obtain ⟨v, rfl, rv⟩ := rep_one r1
  refine ⟨v, rfl, fun dx hx a ha => ?_⟩
  have g2 := g1.new (o := .xd [(f, v)]) hx
  have s2 : Same F1 (upd F1 dx (.xd [(f, v)])) := same_upd (g1.freeF hx)
  exact po _ _ _ _ _ (q2 a (g2.freeO ha)) (s1.trans s2) (g2.newO ha ⟨_, some dx, upd_same, xO_is, dx, [(f, v)], rfl, upd_same, .cons ⟨rfl, rv.mono s2⟩ .nil⟩) (by simp only [Rep])
def gRaiseI (RX : XW) (C : Addr) (f : Str) (fr : FA) : GS := fun _ ρ O => fr ρ O fun ds O1 => ∃ d, ds = [d] ∧ RX (.ref C) (some [(f, d)]) ρ O1
theorem ds_raiseI (N : ExI X.K X.mg x f C fI fd qual st ps) (F1 : FnOk X.prog X.w X.K X.mg X.base CX0 k fI fd ps (spI C f)) (hr : Room (k + 1) X.A) (hc : X.calm = true) (tk : Takes X W) (hg : Gl X x) (ha : DA (mxw X.K RX W) X (e :: es) fr)
    (hdb : (x == ("__debug__" : Str)) = false := by decide) (he : starEach (e :: es) X.env = (false, eval e X.env) :: starEach es X.env := by rfl) (hpl : (backTo pos (starEach es X.env)).any (·.1) = false := by rfl) :
    DS (mxw X.K RX W) X (.Raise (some (.Call (.Name x p) (e :: es) [] pos)) none pos') (gRaiseI RX C f fr) :=
  psMono (ps_raise hc tk (pmk_oex N.T N.iC N.tI F1 hr N.b .nil pass0 hg N.g ha hdb he hpl)) fun D σ H h => by
    obtain ⟨F, O, P, ρ, R, g, en, q, po⟩ := h
    refine ⟨F, O, P, ρ, _, g, en, q, fun ds O1 F1 H1 vs q1 s1 g1 r1 => ?_⟩
    obtain ⟨d, rfl, q2⟩ := q1
    obtain ⟨v, rfl, rv⟩ := rep_one r1
    refine ⟨by simp, fun a han => ⟨a, v, rfl, upd_same, fun dx h1 h2 => ⟨rfl, dx, [(f, v)], upd_same, by rw [upd_ne h2, upd_same], by rw [upd_ne h2] at h1; exact h1, ?_⟩⟩⟩
    have hx : H1 dx = none := by rw [upd_ne h2] at h1; exact h1
    have eH : upd (del (upd (upd (upd H1 a (exo a C none)) dx (exd dx [(f, v)])) a (exo a C (some dx))) a) dx (.xd [(f, v)]) = upd H1 dx (.xd [(f, v)]) := by
      funext b
      by_cases hb : b = dx
      · rw [hb, upd_same, upd_same]
      · rw [upd_ne hb, upd_ne hb]
        by_cases hc : b = a
        · rw [hc, del_same, han]
        · rw [del_ne hc, upd_ne hc, upd_ne hb, upd_ne hc]
    rw [eH]
    have g2 := g1.new (o := .xd [(f, v)]) hx
    have s2 : Same F1 (upd F1 dx (.xd [(f, v)])) := same_upd (g1.freeF hx)
    exact g2.wish q2 ⟨dx, [(f, v)], rfl, upd_same, .cons ⟨rfl, rv.mono s2⟩ .nil⟩ (en.mono (s1.trans s2))
end
section
variable {P : Program} {w : World} {K : PySem.W.Frag} {mg : Str → Option Value} {base : Heap}
theorem fn_initI {C fI : Addr} {fd : FuncData} {f m qual : Str} {st : Stmt} {N ps : List Str} {k : Nat} (F : Fun K "__init__" qual st fI fd) (S : FnScope N ps (defScope st)) (hN : N.length = 2) (hp : ps.length = 2) (T : OexC K C) (no : PySem.W.findIn K (.ref C) f = some none)
    (hder : ∀ (cdv : Value) (A : Around) (outer : List Env) (s : Shared) (H : Hp) (E : XK),
      PSs (cxOf CX0 P w K mg base N qual (defScope st) fI cdv A outer s H E).nox (defBody st) (tSeq (tDrop (tVeI K (tCons (tVar 0) (tCons (tC (.str m)) tNil)))) (tOst K f (tVar 0) (tVar 1)))) :
    FnOk P w K mg base CX0 (k + 1) fI fd ps (spI C f) := by
  refine F.ok S (fun vs H Q E h => ?_) fun cdv A outer s H vs Q E hr h => ⟨_, hder cdv A outer s H E, ?_⟩
  · obtain ⟨a, y, rfl, _⟩ := h
    rw [hp]; rfl
  · obtain ⟨a, y, rfl, ha, q⟩ := h
    have e0 : L2.start N [V.ref a, y] = [some (.ref a), some y] := by
      unfold L2.start
      rw [hN]
      rfl
    rw [e0]
    refine ⟨.ref a, rfl, ⟨a, C, [.str m], rfl, by simp, T, ha, ?_⟩⟩
    exact ⟨y, rfl, .ref a, rfl, a, C, rfl, T, no, .inl ⟨ha, fun dx h1 h2 => q dx h1 h2⟩⟩
end
theorem ap_fMkE (C : Addr) (fe : FE) {ρ : DEnv} {O : Ow} {Q : VD} : fMkE C fe ρ O Q = fe ρ O fun _ O1 => ∀ a, O1 a = none → Q (.ref a) (updO O1 a (.exc (.ref C) none)) := rfl
theorem ap_fMkI (C : Addr) (f : Str) (fr : FA) {ρ : DEnv} {O : Ow} {Q : VD} : fMkI C f fr ρ O Q = fr ρ O fun ds O1 => ∃ d, ds = [d] ∧ ∀ a, O1 a = none → Q (.ref a) (updO O1 a (.exc (.ref C) (some [(f, d)]))) := rfl
theorem ap_gRaiseI (RX : XW) (C : Addr) (f : Str) (fr : FA) {R : DEnds} {ρ : DEnv} {O : Ow} : gRaiseI RX C f fr R ρ O = fr ρ O fun ds O1 => ∃ d, ds = [d] ∧ RX (.ref C) (some [(f, d)]) ρ O1 := rfl
end Kf
namespace Kf
open PySem PySem.Spec L2
open PyProof.Rows hiding St
def topS (i : Nat) : Stmt := PySem.Challenge.pw_kindfill_k13_refusals.main.body.getD i (.Pass ⟨0, 0, 0, 0⟩)
abbrev s_NoFit___init__ : Stmt := inClass (topS 4) 0
abbrev N_NoFit___init__ : List Str := ["self", "place"]
abbrev P_NoFit___init__ : List Str := ["self", "place"]
theorem sc_NoFit___init__ : FnScope N_NoFit___init__ P_NoFit___init__ (defScope s_NoFit___init__) := ⟨rfl, rfl, rfl, by decide +kernel, rfl, by decide +kernel, by decide +kernel⟩
theorem ini_NoFit {P : Program} {w : World} {K : PySem.W.Frag} {mg : Str → Option Value} {base : Heap} {B C fI : Addr} {fd : FuncData} (b : BaseX K mg "KindError" B) (F : Fun K "__init__" "NoFit.__init__" s_NoFit___init__ fI fd) (T : OexC K C) (no : PySem.W.findIn K (.ref C) "place" = some none) : FnOk P w K mg base CX0 1 fI fd P_NoFit___init__ (spI C "place") :=
  fn_initI (k := 0) (N := N_NoFit___init__) F sc_NoFit___init__ rfl rfl T no fun cdv A outer s H E => pss_cons (ps_expr (pe_binit b (by rfl) (pa_cons (pe_var (i := 0) (by rfl) (by first | exact Or.inl rfl | exact Or.inr (Or.inl rfl) | exact Or.inr (Or.inr rfl))) (pa_cons pe_str pa_nil)))) (pss_one (ps_ost (pe_var (i := 0) (by rfl) (by first | exact Or.inl rfl | exact Or.inr (Or.inl rfl) | exact Or.inr (Or.inr rfl))) (pe_var (i := 1) (by rfl) (by first | exact Or.inl rfl | exact Or.inr (Or.inl rfl) | exact Or.inr (Or.inr rfl)))))
abbrev s_NoMaking___init__ : Stmt := inClass (topS 9) 0
abbrev N_NoMaking___init__ : List Str := ["self", "at"]
abbrev P_NoMaking___init__ : List Str := ["self", "at"]
theorem sc_NoMaking___init__ : FnScope N_NoMaking___init__ P_NoMaking___init__ (defScope s_NoMaking___init__) := ⟨rfl, rfl, rfl, by decide +kernel, rfl, by decide +kernel, by decide +kernel⟩
theorem ini_NoMaking {P : Program} {w : World} {K : PySem.W.Frag} {mg : Str → Option Value} {base : Heap} {B C fI : Addr} {fd : FuncData} (b : BaseX K mg "KindError" B) (F : Fun K "__init__" "NoMaking.__init__" s_NoMaking___init__ fI fd) (T : OexC K C) (no : PySem.W.findIn K (.ref C) "at" = some none) : FnOk P w K mg base CX0 1 fI fd P_NoMaking___init__ (spI C "at") :=
  fn_initI (k := 0) (N := N_NoMaking___init__) F sc_NoMaking___init__ rfl rfl T no fun cdv A outer s H E => pss_cons (ps_expr (pe_binit b (by rfl) (pa_cons (pe_var (i := 0) (by rfl) (by first | exact Or.inl rfl | exact Or.inr (Or.inl rfl) | exact Or.inr (Or.inr rfl))) (pa_cons pe_str pa_nil)))) (pss_one (ps_ost (pe_var (i := 0) (by rfl) (by first | exact Or.inl rfl | exact Or.inr (Or.inl rfl) | exact Or.inr (Or.inr rfl))) (pe_var (i := 1) (by rfl) (by first | exact Or.inl rfl | exact Or.inr (Or.inl rfl) | exact Or.inr (Or.inr rfl)))))
/-! ### _law_pool -/
abbrev s__law_pool : Stmt := topS 19
abbrev N__law_pool : List Str := ["_law_script", "_law_k", "_law_cell", "_law_number"]
abbrev P__law_pool : List Str := ["_law_script", "_law_k"]
theorem sc__law_pool : FnScope N__law_pool P__law_pool (defScope s__law_pool) := ⟨rfl, rfl, rfl, by decide +kernel, rfl, by decide +kernel, by decide +kernel⟩
def g__law_pool : GS :=
  (gSeq (gSet (fC (.int 0)) 2) (gSeq (gIf (fTest (fOp rLtD (fVar 1) (fCB rLenD (fCons (fVar 0) fNil)))) (gSet (fOp rIxD (fVar 0) (fVar 1)) 2) gNext) (gSeq (gSet (fOp rModD (fOp rPowD (fOp rAddD (fOp rAddD (fOp rModD (fVar 2) (fC (.int 2147483629))) (fOp rMulD (fOp rMulD (fC (.int 104729)) (fVar 1)) (fVar 1))) (fC (.int 11))) (fC (.int 3))) (fC (.int 2147483647))) 3) (gSeq (gIf (fTest (fOp rLtD (fVar 2) (fOp rPowD (fC (.int 10)) (fC (.int 18))))) (gSet (fC (.int 0)) 2) gNext) (gRet (fPool (fCons (fVar 2) (fCons (fVar 3) fNil))))))))
theorem der__law_pool {P : Program} {w : World} {K : PySem.W.Frag} {mg : Str → Option Value} {base : Heap} {k : Nat} {f : Addr} (m_len : mg "len" = none)
    (cdv : Value) (A : Around) (outer : List Env) (s : Shared) (H : Hp) (E : XK) (hr : Room k (A.deeper (envOfC "_law_pool" (defScope s__law_pool) s.heap.objs.size f cdv))) :
    DSs MT (cxOf CX0 P w K mg base N__law_pool "_law_pool" (defScope s__law_pool) f cdv A outer s H E).nox (defBody s__law_pool) (g__law_pool) :=
  (dss_cons (ds_set (i := 2) sc__law_pool.nd rfl (by first | exact Or.inl rfl | exact Or.inr rfl) de_int) (dss_cons (ds_if (dt_cmp od_lt (de_var 1) (de_callB cd_len (by rfl) m_len bb_len (da_cons (de_var 0) da_nil)) (nomark _)) (dss_one (ds_set (i := 2) sc__law_pool.nd rfl (by first | exact Or.inl rfl | exact Or.inr rfl) (de_ix (de_var 0) (de_var 1)))) dss_nil) (dss_cons (ds_set (i := 3) sc__law_pool.nd rfl (by first | exact Or.inl rfl | exact Or.inr rfl) (de_op od_mod (de_op od_pow (de_op od_add (de_op od_add (de_op od_mod (de_var 2) de_int) (de_op od_mul (de_op od_mul de_int (de_var 1)) (de_var 1))) de_int) de_int) de_int)) (dss_cons (ds_if (dt_cmp od_lt (de_var 2) (de_op od_pow de_int de_int) (nomark _)) (dss_one (ds_set (i := 2) sc__law_pool.nd rfl (by first | exact Or.inl rfl | exact Or.inr rfl) de_int)) dss_nil) (dss_one (ds_ret (de_pool (da_cons (de_var 2) (da_cons (de_var 3) da_nil)))))))))
/-! ### _law_take -/
abbrev s__law_take : Stmt := topS 20
abbrev N__law_take : List Str := ["_law_pool_here", "_law_many", "_law_found"]
abbrev P__law_take : List Str := ["_law_pool_here", "_law_many"]
theorem sc__law_take : FnScope N__law_take P__law_take (defScope s__law_take) := ⟨rfl, rfl, rfl, by decide +kernel, rfl, by decide +kernel, by decide +kernel⟩
def g__law_take : GS :=
  (gSeq (gIf (fTest (fOp rGtD (fOp rIxD (fVar 0) (fC (.int 0))) (fC (.int 0)))) (gSeq (gSet (fOp rModD (fOp rIxD (fVar 0) (fC (.int 0))) (fVar 1)) 2) (gSeq (gSetIx (fVar 0) (fC (.int 0)) (fOp rDivD (fOp rIxD (fVar 0) (fC (.int 0))) (fVar 1))) (gRet (fVar 2)))) gNext) (gSeq (gSetIx (fVar 0) (fC (.int 1)) (fOp rModD (fOp rAddD (fOp rMulD (fOp rIxD (fVar 0) (fC (.int 1))) (fC (.int 48271))) (fC (.int 11))) (fC (.int 2147483647)))) (gRet (fOp rModD (fOp rDivD (fOp rModD (fOp rMulD (fOp rIxD (fVar 0) (fC (.int 1))) (fOp rIxD (fVar 0) (fC (.int 1)))) (fC (.int 2147483629))) (fC (.int 64))) (fVar 1)))))
theorem der__law_take {P : Program} {w : World} {K : PySem.W.Frag} {mg : Str → Option Value} {base : Heap} {k : Nat} {f : Addr} 
    (cdv : Value) (A : Around) (outer : List Env) (s : Shared) (H : Hp) (E : XK) (hr : Room k (A.deeper (envOfC "_law_take" (defScope s__law_take) s.heap.objs.size f cdv))) :
    DSs MT (cxOf CX0 P w K mg base N__law_take "_law_take" (defScope s__law_take) f cdv A outer s H E).nox (defBody s__law_take) (g__law_take) :=
  (dss_cons (ds_if (dt_cmp od_gt (de_ix (de_var 0) de_int) de_int (nomark _)) (dss_cons (ds_set (i := 2) sc__law_take.nd rfl (by first | exact Or.inl rfl | exact Or.inr rfl) (de_op od_mod (de_ix (de_var 0) de_int) (de_var 1))) (dss_cons (ds_setIx (de_var 0) de_int (de_op od_div (de_ix (de_var 0) de_int) (de_var 1))) (dss_one (ds_ret (de_var 2))))) dss_nil) (dss_cons (ds_setIx (de_var 0) de_int (de_op od_mod (de_op od_add (de_op od_mul (de_ix (de_var 0) de_int) de_int) de_int) de_int)) (dss_one (ds_ret (de_op od_mod (de_op od_div (de_op od_mod (de_op od_mul (de_ix (de_var 0) de_int) (de_ix (de_var 0) de_int)) de_int) de_int) (de_var 1))))))
/-! ### _law_made -/
abbrev s__law_made : Stmt := topS 21
abbrev N__law_made : List Str := ["_law_way", "_law_thing"]
abbrev P__law_made : List Str := ["_law_way", "_law_thing"]
theorem sc__law_made : FnScope N__law_made P__law_made (defScope s__law_made) := ⟨rfl, rfl, rfl, by decide +kernel, rfl, by decide +kernel, by decide +kernel⟩
def g__law_made (C_NoKind C_NoText C_NoStep C_TooLong C_TooMany C_NoLong C_NoNumber C_NoRow C_NoName C_Twice C_Used C_NoGap C_NoTree C_NoUndo C_NoFit C_NoMaking : Addr) : GS :=
  (gSeq (gIf (fTest (fOp rLtD (fVar 0) (fC (.int 4)))) (gRet (fOp rIxD (fLst (fCons (fMkE C_NoKind (fC (.str "a"))) (fCons (fMkE C_NoText (fC (.str "a"))) (fCons (fMkE C_NoStep (fC (.str "a"))) (fCons (fMkE C_TooLong (fC (.str "a"))) fNil))))) (fVar 0))) gNext) (gSeq (gIf (fTest (fOp rLtD (fVar 0) (fC (.int 8)))) (gRet (fOp rIxD (fLst (fCons (fMkE C_TooMany (fC (.str "a"))) (fCons (fMkE C_NoLong (fC (.str "a"))) (fCons (fMkE C_NoNumber (fC (.str "a"))) (fCons (fMkE C_NoRow (fC (.str "a"))) fNil))))) (fOp rSubD (fVar 0) (fC (.int 4))))) gNext) (gSeq (gIf (fTest (fOp rLtD (fVar 0) (fC (.int 12)))) (gRet (fOp rIxD (fLst (fCons (fMkE C_NoName (fC (.str "a"))) (fCons (fMkE C_Twice (fC (.str "a"))) (fCons (fMkE C_Used (fC (.str "a"))) (fCons (fMkE C_NoGap (fC (.str "a"))) fNil))))) (fOp rSubD (fVar 0) (fC (.int 8))))) gNext) (gRet (fOp rIxD (fLst (fCons (fMkE C_NoTree (fC (.str "a"))) (fCons (fMkE C_NoUndo (fC (.str "a"))) (fCons (fMkI C_NoFit "place" (fCons (fVar 1) fNil)) (fCons (fMkI C_NoMaking "at" (fCons (fCB rLenD (fCons (fVar 1) fNil)) fNil)) fNil))))) (fOp rSubD (fVar 0) (fC (.int 12))))))))
theorem der__law_made {P : Program} {w : World} {K : PySem.W.Frag} {mg : Str → Option Value} {base : Heap} {k : Nat} {f : Addr} {C_NoKind C_NoText C_NoStep C_TooLong C_TooMany C_NoLong C_NoNumber C_NoRow C_NoName C_Twice C_Used C_NoGap C_NoTree C_NoUndo C_NoFit C_NoMaking : Addr} (m_len : mg "len" = none) (x_NoKind : ExN K mg "NoKind" C_NoKind) (x_NoText : ExN K mg "NoText" C_NoText) (x_NoStep : ExN K mg "NoStep" C_NoStep) (x_TooLong : ExN K mg "TooLong" C_TooLong) (x_TooMany : ExN K mg "TooMany" C_TooMany) (x_NoLong : ExN K mg "NoLong" C_NoLong) (x_NoNumber : ExN K mg "NoNumber" C_NoNumber) (x_NoRow : ExN K mg "NoRow" C_NoRow) (x_NoName : ExN K mg "NoName" C_NoName) (x_Twice : ExN K mg "Twice" C_Twice) (x_Used : ExN K mg "Used" C_Used) (x_NoGap : ExN K mg "NoGap" C_NoGap) (x_NoTree : ExN K mg "NoTree" C_NoTree) (x_NoUndo : ExN K mg "NoUndo" C_NoUndo) {fI_NoFit : Addr} {fdI_NoFit : FuncData} (xi_NoFit : ExI K mg "NoFit" "place" C_NoFit fI_NoFit fdI_NoFit "NoFit.__init__" s_NoFit___init__ P_NoFit___init__) (GI_NoFit : FnOk P w K mg base CX0 1 fI_NoFit fdI_NoFit P_NoFit___init__ (spI C_NoFit "place")) (h2_NoFit : 2 ≤ k) {fI_NoMaking : Addr} {fdI_NoMaking : FuncData} (xi_NoMaking : ExI K mg "NoMaking" "at" C_NoMaking fI_NoMaking fdI_NoMaking "NoMaking.__init__" s_NoMaking___init__ P_NoMaking___init__) (GI_NoMaking : FnOk P w K mg base CX0 1 fI_NoMaking fdI_NoMaking P_NoMaking___init__ (spI C_NoMaking "at")) (h2_NoMaking : 2 ≤ k)
    (cdv : Value) (A : Around) (outer : List Env) (s : Shared) (H : Hp) (E : XK) (hr : Room k (A.deeper (envOfC "_law_made" (defScope s__law_made) s.heap.objs.size f cdv))) :
    DSs MT (cxOf CX0 P w K mg base N__law_made "_law_made" (defScope s__law_made) f cdv A outer s H E).nox (defBody s__law_made) (g__law_made C_NoKind C_NoText C_NoStep C_TooLong C_TooMany C_NoLong C_NoNumber C_NoRow C_NoName C_Twice C_Used C_NoGap C_NoTree C_NoUndo C_NoFit C_NoMaking) :=
  (dss_cons (ds_if (dt_cmp od_lt (de_var 0) de_int (nomark _)) (dss_one (ds_ret (de_ix (de_lst (da_cons (de_mkE x_NoKind (by rfl) de_str) (da_cons (de_mkE x_NoText (by rfl) de_str) (da_cons (de_mkE x_NoStep (by rfl) de_str) (da_cons (de_mkE x_TooLong (by rfl) de_str) da_nil))))) (de_var 0)))) dss_nil) (dss_cons (ds_if (dt_cmp od_lt (de_var 0) de_int (nomark _)) (dss_one (ds_ret (de_ix (de_lst (da_cons (de_mkE x_TooMany (by rfl) de_str) (da_cons (de_mkE x_NoLong (by rfl) de_str) (da_cons (de_mkE x_NoNumber (by rfl) de_str) (da_cons (de_mkE x_NoRow (by rfl) de_str) da_nil))))) (de_op od_sub (de_var 0) de_int)))) dss_nil) (dss_cons (ds_if (dt_cmp od_lt (de_var 0) de_int (nomark _)) (dss_one (ds_ret (de_ix (de_lst (da_cons (de_mkE x_NoName (by rfl) de_str) (da_cons (de_mkE x_Twice (by rfl) de_str) (da_cons (de_mkE x_Used (by rfl) de_str) (da_cons (de_mkE x_NoGap (by rfl) de_str) da_nil))))) (de_op od_sub (de_var 0) de_int)))) dss_nil) (dss_one (ds_ret (de_ix (de_lst (da_cons (de_mkE x_NoTree (by rfl) de_str) (da_cons (de_mkE x_NoUndo (by rfl) de_str) (da_cons (de_mkI xi_NoFit GI_NoFit (hr.mono h2_NoFit) (by rfl) (da_cons (de_var 1) da_nil)) (da_cons (de_mkI xi_NoMaking GI_NoMaking (hr.mono h2_NoMaking) (by rfl) (da_cons (de_callB cd_len (by rfl) m_len bb_len (da_cons (de_var 1) da_nil)) da_nil)) da_nil))))) (de_op od_sub (de_var 0) de_int)))))))
/-! ### _law_kinds -/
abbrev s__law_kinds : Stmt := topS 22
abbrev N__law_kinds : List Str := ["_law_e", "_law_kinds_here"]
abbrev P__law_kinds : List Str := ["_law_e"]
theorem sc__law_kinds : FnScope N__law_kinds P__law_kinds (defScope s__law_kinds) := ⟨rfl, rfl, rfl, by decide +kernel, rfl, by decide +kernel, by decide +kernel⟩
def g__law_kinds (K : PySem.W.Frag) (C_NoKind C_NoText C_NoStep C_TooLong C_TooMany C_NoLong C_NoNumber C_NoRow C_NoName C_Twice C_Used C_NoGap C_NoTree C_NoUndo C_NoFit C_NoMaking : Addr) : GS :=
  (gSeq (gSet (fLst (fCons (fCB (rIsXD K) (fCons (fVar 0) (fCons (fC (.ref C_NoKind)) fNil))) (fCons (fCB (rIsXD K) (fCons (fVar 0) (fCons (fC (.ref C_NoText)) fNil))) (fCons (fCB (rIsXD K) (fCons (fVar 0) (fCons (fC (.ref C_NoStep)) fNil))) (fCons (fCB (rIsXD K) (fCons (fVar 0) (fCons (fC (.ref C_TooLong)) fNil))) fNil))))) 1) (gSeq (gSet (fOp rAddD (fVar 1) (fLst (fCons (fCB (rIsXD K) (fCons (fVar 0) (fCons (fC (.ref C_TooMany)) fNil))) (fCons (fCB (rIsXD K) (fCons (fVar 0) (fCons (fC (.ref C_NoLong)) fNil))) (fCons (fCB (rIsXD K) (fCons (fVar 0) (fCons (fC (.ref C_NoNumber)) fNil))) (fCons (fCB (rIsXD K) (fCons (fVar 0) (fCons (fC (.ref C_NoRow)) fNil))) fNil)))))) 1) (gSeq (gSet (fOp rAddD (fVar 1) (fLst (fCons (fCB (rIsXD K) (fCons (fVar 0) (fCons (fC (.ref C_NoName)) fNil))) (fCons (fCB (rIsXD K) (fCons (fVar 0) (fCons (fC (.ref C_Twice)) fNil))) (fCons (fCB (rIsXD K) (fCons (fVar 0) (fCons (fC (.ref C_Used)) fNil))) (fCons (fCB (rIsXD K) (fCons (fVar 0) (fCons (fC (.ref C_NoGap)) fNil))) fNil)))))) 1) (gRet (fOp rAddD (fVar 1) (fLst (fCons (fCB (rIsXD K) (fCons (fVar 0) (fCons (fC (.ref C_NoTree)) fNil))) (fCons (fCB (rIsXD K) (fCons (fVar 0) (fCons (fC (.ref C_NoUndo)) fNil))) (fCons (fCB (rIsXD K) (fCons (fVar 0) (fCons (fC (.ref C_NoFit)) fNil))) (fCons (fCB (rIsXD K) (fCons (fVar 0) (fCons (fC (.ref C_NoMaking)) fNil))) fNil))))))))))
theorem der__law_kinds {P : Program} {w : World} {K : PySem.W.Frag} {mg : Str → Option Value} {base : Heap} {k : Nat} {f : Addr} {C_NoKind C_NoText C_NoStep C_TooLong C_TooMany C_NoLong C_NoNumber C_NoRow C_NoName C_Twice C_Used C_NoGap C_NoTree C_NoUndo C_NoFit C_NoMaking : Addr} (m_isinstance : mg "isinstance" = none) (k_NoKind : Cl K mg "NoKind" C_NoKind) (k_NoText : Cl K mg "NoText" C_NoText) (k_NoStep : Cl K mg "NoStep" C_NoStep) (k_TooLong : Cl K mg "TooLong" C_TooLong) (k_TooMany : Cl K mg "TooMany" C_TooMany) (k_NoLong : Cl K mg "NoLong" C_NoLong) (k_NoNumber : Cl K mg "NoNumber" C_NoNumber) (k_NoRow : Cl K mg "NoRow" C_NoRow) (k_NoName : Cl K mg "NoName" C_NoName) (k_Twice : Cl K mg "Twice" C_Twice) (k_Used : Cl K mg "Used" C_Used) (k_NoGap : Cl K mg "NoGap" C_NoGap) (k_NoTree : Cl K mg "NoTree" C_NoTree) (k_NoUndo : Cl K mg "NoUndo" C_NoUndo) (k_NoFit : Cl K mg "NoFit" C_NoFit) (k_NoMaking : Cl K mg "NoMaking" C_NoMaking)
    (cdv : Value) (A : Around) (outer : List Env) (s : Shared) (H : Hp) (E : XK) (hr : Room k (A.deeper (envOfC "_law_kinds" (defScope s__law_kinds) s.heap.objs.size f cdv))) :
    DSs MT (cxOf CX0 P w K mg base N__law_kinds "_law_kinds" (defScope s__law_kinds) f cdv A outer s H E).nox (defBody s__law_kinds) (g__law_kinds K C_NoKind C_NoText C_NoStep C_TooLong C_TooMany C_NoLong C_NoNumber C_NoRow C_NoName C_Twice C_Used C_NoGap C_NoTree C_NoUndo C_NoFit C_NoMaking) :=
  (dss_cons (ds_set (i := 1) sc__law_kinds.nd rfl (by first | exact Or.inl rfl | exact Or.inr rfl) (de_lst (da_cons (de_callB cd_isX (by rfl) m_isinstance bb_isinstance (da_cons (de_var 0) (da_cons (de_cst (cst_cls k_NoKind) (by rfl)) da_nil))) (da_cons (de_callB cd_isX (by rfl) m_isinstance bb_isinstance (da_cons (de_var 0) (da_cons (de_cst (cst_cls k_NoText) (by rfl)) da_nil))) (da_cons (de_callB cd_isX (by rfl) m_isinstance bb_isinstance (da_cons (de_var 0) (da_cons (de_cst (cst_cls k_NoStep) (by rfl)) da_nil))) (da_cons (de_callB cd_isX (by rfl) m_isinstance bb_isinstance (da_cons (de_var 0) (da_cons (de_cst (cst_cls k_TooLong) (by rfl)) da_nil))) da_nil)))))) (dss_cons (ds_set (i := 1) sc__law_kinds.nd rfl (by first | exact Or.inl rfl | exact Or.inr rfl) (de_op od_add (de_var 1) (de_lst (da_cons (de_callB cd_isX (by rfl) m_isinstance bb_isinstance (da_cons (de_var 0) (da_cons (de_cst (cst_cls k_TooMany) (by rfl)) da_nil))) (da_cons (de_callB cd_isX (by rfl) m_isinstance bb_isinstance (da_cons (de_var 0) (da_cons (de_cst (cst_cls k_NoLong) (by rfl)) da_nil))) (da_cons (de_callB cd_isX (by rfl) m_isinstance bb_isinstance (da_cons (de_var 0) (da_cons (de_cst (cst_cls k_NoNumber) (by rfl)) da_nil))) (da_cons (de_callB cd_isX (by rfl) m_isinstance bb_isinstance (da_cons (de_var 0) (da_cons (de_cst (cst_cls k_NoRow) (by rfl)) da_nil))) da_nil))))))) (dss_cons (ds_set (i := 1) sc__law_kinds.nd rfl (by first | exact Or.inl rfl | exact Or.inr rfl) (de_op od_add (de_var 1) (de_lst (da_cons (de_callB cd_isX (by rfl) m_isinstance bb_isinstance (da_cons (de_var 0) (da_cons (de_cst (cst_cls k_NoName) (by rfl)) da_nil))) (da_cons (de_callB cd_isX (by rfl) m_isinstance bb_isinstance (da_cons (de_var 0) (da_cons (de_cst (cst_cls k_Twice) (by rfl)) da_nil))) (da_cons (de_callB cd_isX (by rfl) m_isinstance bb_isinstance (da_cons (de_var 0) (da_cons (de_cst (cst_cls k_Used) (by rfl)) da_nil))) (da_cons (de_callB cd_isX (by rfl) m_isinstance bb_isinstance (da_cons (de_var 0) (da_cons (de_cst (cst_cls k_NoGap) (by rfl)) da_nil))) da_nil))))))) (dss_one (ds_ret (de_op od_add (de_var 1) (de_lst (da_cons (de_callB cd_isX (by rfl) m_isinstance bb_isinstance (da_cons (de_var 0) (da_cons (de_cst (cst_cls k_NoTree) (by rfl)) da_nil))) (da_cons (de_callB cd_isX (by rfl) m_isinstance bb_isinstance (da_cons (de_var 0) (da_cons (de_cst (cst_cls k_NoUndo) (by rfl)) da_nil))) (da_cons (de_callB cd_isX (by rfl) m_isinstance bb_isinstance (da_cons (de_var 0) (da_cons (de_cst (cst_cls k_NoFit) (by rfl)) da_nil))) (da_cons (de_callB cd_isX (by rfl) m_isinstance bb_isinstance (da_cons (de_var 0) (da_cons (de_cst (cst_cls k_NoMaking) (by rfl)) da_nil))) da_nil)))))))))))
/-! ### law -/
abbrev s_law : Stmt := topS 23
abbrev N_law : List Str := ["_law_script", "_law_pool_here", "_law_way", "_law_thing", "_law_error", "_law_k", "_law_one"]
abbrev P_law : List Str := ["_law_script"]
theorem sc_law : FnScope N_law P_law (defScope s_law) := ⟨rfl, rfl, rfl, by decide +kernel, rfl, by decide +kernel, by decide +kernel⟩
def g_law (sp__law_pool sp__law_take sp__law_made sp__law_kinds : DSp) (K : PySem.W.Frag) (C_KindError : Addr) : GS :=
  (gSeq (gSet (fCall sp__law_pool (fCons (fVar 0) (fCons (fC (.int 0)) fNil))) 1) (gSeq (gFor (fiRng1 (fCons (fC (.int 16)) fNil)) (.nm 2) (gSeq (gSet (fLc (fiRng1 (fCons (fCall sp__law_take (fCons (fVar 1) (fCons (fC (.int 5)) fNil))) fNil)) (.nm 5) fYes (fCall sp__law_take (fCons (fVar 1) (fCons (fC (.int 2)) fNil))) [5]) 3) (gSeq (gSet (fCall sp__law_made (fCons (fVar 2) (fCons (fVar 3) fNil))) 4) (gSeq (gIf (fOr (fNot (fTest (fCB (rIsXD K) (fCons (fVar 4) (fCons (fC (.ref C_KindError)) fNil))))) (fNot (fTest (fCB (rIsXD K) (fCons (fVar 4) (fCons (fC (.ty "ValueError")) fNil)))))) (gRet (fC (.bl false))) gNext) (gSeq (gIf (fTest (fOp (rEqD true) (fCall sp__law_kinds (fCons (fVar 4) fNil)) (fLc (fiRng1 (fCons (fC (.int 16)) fNil)) (.nm 6) fYes (fOp (rEqD false) (fVar 6) (fVar 2)) [6]))) (gRet (fC (.bl false))) gNext) (gIf (fOr (fAnd (fTest (fOp (rEqD false) (fVar 2) (fC (.int 14)))) (fTest (fOp (rEqD true) (fXf K "place" (fVar 4)) (fVar 3)))) (fAnd (fTest (fOp (rEqD false) (fVar 2) (fC (.int 15)))) (fTest (fOp (rEqD true) (fXf K "at" (fVar 4)) (fCB rLenD (fCons (fVar 3) fNil)))))) (gRet (fC (.bl false))) gNext)))))) (gRet (fC (.bl true)))))
theorem der_law {P : Program} {w : World} {K : PySem.W.Frag} {mg : Str → Option Value} {base : Heap} {k : Nat} {f : Addr} {sp__law_pool sp__law_take sp__law_made sp__law_kinds : DSp} {C_KindError : Addr} {a__law_pool : Addr} {fd__law_pool : FuncData} (n__law_pool : Fn K mg "_law_pool" s__law_pool P__law_pool a__law_pool fd__law_pool) (G__law_pool : FnOk P w K mg base CX0 k a__law_pool fd__law_pool P__law_pool (liftSp K sp__law_pool)) {a__law_take : Addr} {fd__law_take : FuncData} (n__law_take : Fn K mg "_law_take" s__law_take P__law_take a__law_take fd__law_take) (G__law_take : FnOk P w K mg base CX0 k a__law_take fd__law_take P__law_take (liftSp K sp__law_take)) {a__law_made : Addr} {fd__law_made : FuncData} (n__law_made : Fn K mg "_law_made" s__law_made P__law_made a__law_made fd__law_made) (G__law_made : FnOk P w K mg base CX0 k a__law_made fd__law_made P__law_made (liftSp K sp__law_made)) {a__law_kinds : Addr} {fd__law_kinds : FuncData} (n__law_kinds : Fn K mg "_law_kinds" s__law_kinds P__law_kinds a__law_kinds fd__law_kinds) (G__law_kinds : FnOk P w K mg base CX0 k a__law_kinds fd__law_kinds P__law_kinds (liftSp K sp__law_kinds)) (m_range : mg "range" = none) (m_isinstance : mg "isinstance" = none) (m_ValueError : mg "ValueError" = none) (m_len : mg "len" = none) (k_KindError : Cl K mg "KindError" C_KindError)
    (cdv : Value) (A : Around) (outer : List Env) (s : Shared) (H : Hp) (E : XK) (hr : Room k (A.deeper (envOfC "law" (defScope s_law) s.heap.objs.size f cdv))) :
    DSs MT (cxOf CX0 P w K mg base N_law "law" (defScope s_law) f cdv A outer s H E).nox (defBody s_law) (g_law sp__law_pool sp__law_take sp__law_made sp__law_kinds K C_KindError) :=
  (dss_cons (ds_set (i := 1) sc_law.nd rfl (by first | exact Or.inl rfl | exact Or.inr rfl) (de_callN n__law_pool G__law_pool hr (by rfl) (da_cons (de_var 0) (da_cons de_int da_nil)))) (dss_cons (ds_for PassesOwn.never rfl (di_range1 (by rfl) m_range (da_cons de_int da_nil)) (dp_name (i := 2) sc_law.nd (by rfl) (by first | exact Or.inl rfl | exact Or.inr rfl)) (dss_cons (ds_setLc (i := 3) rfl sc_law.nd rfl rfl (sw_true rfl rfl rfl (by decide +kernel)) (di_range1 (by rfl) m_range (da_cons (de_callN n__law_take G__law_take hr (by rfl) (da_cons (de_var 1) (da_cons de_int da_nil))) da_nil)) (blkOk_by (own := [("_law_k", 5)]) (N := N_law) (sc := defScope s_law) (by decide +kernel)) (fun _ _ _ _ _ => (dp_name (i := 5) sc_law.nd (by rfl) (by first | exact Or.inl rfl | exact Or.inr rfl))) (fun _ _ _ _ _ => dts_nil) (fun _ _ _ _ _ => (de_callN n__law_take G__law_take hr (by rfl) (da_cons (de_var 1) (da_cons de_int da_nil))))) (dss_cons (ds_set (i := 4) sc_law.nd rfl (by first | exact Or.inl rfl | exact Or.inr rfl) (de_callN n__law_made G__law_made hr (by rfl) (da_cons (de_var 2) (da_cons (de_var 3) da_nil)))) (dss_cons (ds_if (dt_of (dw_or (dt_not (dt_val (de_callB cd_isX (by rfl) m_isinstance bb_isinstance (da_cons (de_var 4) (da_cons (de_cst (cst_cls k_KindError) (by rfl)) da_nil))))) (dw_or1 (dt_not (dt_val (de_callB cd_isX (by rfl) m_isinstance bb_isinstance (da_cons (de_var 4) (da_cons (de_ty bb_ValueError m_ValueError (by rfl)) da_nil)))))))) (dss_one (ds_ret de_bl)) dss_nil) (dss_cons (ds_if (dt_cmp (od_ne hr.u200) (de_callN n__law_kinds G__law_kinds hr (by rfl) (da_cons (de_var 4) da_nil)) (de_lc (by rfl) sc_law.nd (di_range1 (by rfl) m_range (da_cons de_int da_nil)) (blkOk_by (own := [("_law_one", 6)]) (N := N_law) (sc := defScope s_law) (by decide +kernel)) (fun _ _ _ _ _ => (dp_name (i := 6) sc_law.nd (by rfl) (by first | exact Or.inl rfl | exact Or.inr rfl))) (fun _ _ _ _ _ => dts_nil) (fun _ _ _ _ _ => (de_cmp (od_eq hr.u200) (de_var 6) (de_var 2) (nomark _)))) (nomark _)) (dss_one (ds_ret de_bl)) dss_nil) (dss_one (ds_if (dt_of (dw_or (dt_of (dw_and (dt_cmp (od_eq hr.u200) (de_var 2) de_int (nomark _)) (dw_and1 (dt_cmp (od_ne hr.u200) (de_xf (de_var 4)) (de_var 3) (nomark _))))) (dw_or1 (dt_of (dw_and (dt_cmp (od_eq hr.u200) (de_var 2) de_int (nomark _)) (dw_and1 (dt_cmp (od_ne hr.u200) (de_xf (de_var 4)) (de_callB cd_len (by rfl) m_len bb_len (da_cons (de_var 3) da_nil)) (nomark _)))))))) (dss_one (ds_ret de_bl)) dss_nil))))))) (dss_one (ds_ret de_bl))))
/-! ### all facts of the text -/
structure Tx (K : PySem.W.Frag) (mg : Str → Option Value) where
  a__law_pool : Addr
  fd__law_pool : FuncData
  n__law_pool : Fn K mg "_law_pool" s__law_pool P__law_pool a__law_pool fd__law_pool
  a__law_take : Addr
  fd__law_take : FuncData
  n__law_take : Fn K mg "_law_take" s__law_take P__law_take a__law_take fd__law_take
  a__law_made : Addr
  fd__law_made : FuncData
  n__law_made : Fn K mg "_law_made" s__law_made P__law_made a__law_made fd__law_made
  a__law_kinds : Addr
  fd__law_kinds : FuncData
  n__law_kinds : Fn K mg "_law_kinds" s__law_kinds P__law_kinds a__law_kinds fd__law_kinds
  a_law : Addr
  fd_law : FuncData
  n_law : Fn K mg "law" s_law P_law a_law fd_law
  m_len : mg "len" = none
  m_isinstance : mg "isinstance" = none
  m_range : mg "range" = none
  m_ValueError : mg "ValueError" = none
  C_NoKind : Addr
  C_NoText : Addr
  C_NoStep : Addr
  C_TooLong : Addr
  C_TooMany : Addr
  C_NoLong : Addr
  C_NoNumber : Addr
  C_NoRow : Addr
  C_NoName : Addr
  C_Twice : Addr
  C_Used : Addr
  C_NoGap : Addr
  C_NoTree : Addr
  C_NoUndo : Addr
  C_NoFit : Addr
  C_NoMaking : Addr
  C_KindError : Addr
  bx_KindError : BaseX K mg "KindError" C_KindError
  fI_NoFit : Addr
  fdI_NoFit : FuncData
  xi_NoFit : ExI K mg "NoFit" "place" C_NoFit fI_NoFit fdI_NoFit "NoFit.__init__" s_NoFit___init__ P_NoFit___init__
  fI_NoMaking : Addr
  fdI_NoMaking : FuncData
  xi_NoMaking : ExI K mg "NoMaking" "at" C_NoMaking fI_NoMaking fdI_NoMaking "NoMaking.__init__" s_NoMaking___init__ P_NoMaking___init__
  x_NoKind : ExN K mg "NoKind" C_NoKind
  x_NoText : ExN K mg "NoText" C_NoText
  x_NoStep : ExN K mg "NoStep" C_NoStep
  x_TooLong : ExN K mg "TooLong" C_TooLong
  x_TooMany : ExN K mg "TooMany" C_TooMany
  x_NoLong : ExN K mg "NoLong" C_NoLong
  x_NoNumber : ExN K mg "NoNumber" C_NoNumber
  x_NoRow : ExN K mg "NoRow" C_NoRow
  x_NoName : ExN K mg "NoName" C_NoName
  x_Twice : ExN K mg "Twice" C_Twice
  x_Used : ExN K mg "Used" C_Used
  x_NoGap : ExN K mg "NoGap" C_NoGap
  x_NoTree : ExN K mg "NoTree" C_NoTree
  x_NoUndo : ExN K mg "NoUndo" C_NoUndo
  k_NoKind : Cl K mg "NoKind" C_NoKind
  k_NoText : Cl K mg "NoText" C_NoText
  k_NoStep : Cl K mg "NoStep" C_NoStep
  k_TooLong : Cl K mg "TooLong" C_TooLong
  k_TooMany : Cl K mg "TooMany" C_TooMany
  k_NoLong : Cl K mg "NoLong" C_NoLong
  k_NoNumber : Cl K mg "NoNumber" C_NoNumber
  k_NoRow : Cl K mg "NoRow" C_NoRow
  k_NoName : Cl K mg "NoName" C_NoName
  k_Twice : Cl K mg "Twice" C_Twice
  k_Used : Cl K mg "Used" C_Used
  k_NoGap : Cl K mg "NoGap" C_NoGap
  k_NoTree : Cl K mg "NoTree" C_NoTree
  k_NoUndo : Cl K mg "NoUndo" C_NoUndo
  k_NoFit : Cl K mg "NoFit" C_NoFit
  k_NoMaking : Cl K mg "NoMaking" C_NoMaking
  k_KindError : Cl K mg "KindError" C_KindError
  ec_NoKind : ExcC K C_NoKind
  ec_NoText : ExcC K C_NoText
  ec_NoStep : ExcC K C_NoStep
  ec_TooLong : ExcC K C_TooLong
  ec_TooMany : ExcC K C_TooMany
  ec_NoLong : ExcC K C_NoLong
  ec_NoNumber : ExcC K C_NoNumber
  ec_NoRow : ExcC K C_NoRow
  ec_NoName : ExcC K C_NoName
  ec_Twice : ExcC K C_Twice
  ec_Used : ExcC K C_Used
  ec_NoGap : ExcC K C_NoGap
  ec_NoTree : ExcC K C_NoTree
  ec_NoUndo : ExcC K C_NoUndo
  ec_NoFit : ExcC K C_NoFit
  ec_NoMaking : ExcC K C_NoMaking
  sb_NoKind_KindError : PySem.W.subIn K (.ref C_NoKind) (.ref C_KindError) = some true
  sb_NoKind_ValueError : PySem.W.subIn K (.ref C_NoKind) (.type "ValueError") = some true
  sb_NoKind_NoText : PySem.W.subIn K (.ref C_NoKind) (.ref C_NoText) = some false
  sb_NoKind_NoStep : PySem.W.subIn K (.ref C_NoKind) (.ref C_NoStep) = some false
  sb_NoKind_TooLong : PySem.W.subIn K (.ref C_NoKind) (.ref C_TooLong) = some false
  sb_NoKind_TooMany : PySem.W.subIn K (.ref C_NoKind) (.ref C_TooMany) = some false
  sb_NoKind_NoLong : PySem.W.subIn K (.ref C_NoKind) (.ref C_NoLong) = some false
  sb_NoKind_NoNumber : PySem.W.subIn K (.ref C_NoKind) (.ref C_NoNumber) = some false
  sb_NoKind_NoRow : PySem.W.subIn K (.ref C_NoKind) (.ref C_NoRow) = some false
  sb_NoKind_NoName : PySem.W.subIn K (.ref C_NoKind) (.ref C_NoName) = some false
  sb_NoKind_Twice : PySem.W.subIn K (.ref C_NoKind) (.ref C_Twice) = some false
  sb_NoKind_Used : PySem.W.subIn K (.ref C_NoKind) (.ref C_Used) = some false
  sb_NoKind_NoGap : PySem.W.subIn K (.ref C_NoKind) (.ref C_NoGap) = some false
  sb_NoKind_NoTree : PySem.W.subIn K (.ref C_NoKind) (.ref C_NoTree) = some false
  sb_NoKind_NoUndo : PySem.W.subIn K (.ref C_NoKind) (.ref C_NoUndo) = some false
  sb_NoKind_NoFit : PySem.W.subIn K (.ref C_NoKind) (.ref C_NoFit) = some false
  sb_NoKind_NoMaking : PySem.W.subIn K (.ref C_NoKind) (.ref C_NoMaking) = some false
  sb_NoText_KindError : PySem.W.subIn K (.ref C_NoText) (.ref C_KindError) = some true
  sb_NoText_ValueError : PySem.W.subIn K (.ref C_NoText) (.type "ValueError") = some true
  sb_NoText_NoKind : PySem.W.subIn K (.ref C_NoText) (.ref C_NoKind) = some false
  sb_NoText_NoStep : PySem.W.subIn K (.ref C_NoText) (.ref C_NoStep) = some false
  sb_NoText_TooLong : PySem.W.subIn K (.ref C_NoText) (.ref C_TooLong) = some false
  sb_NoText_TooMany : PySem.W.subIn K (.ref C_NoText) (.ref C_TooMany) = some false
  sb_NoText_NoLong : PySem.W.subIn K (.ref C_NoText) (.ref C_NoLong) = some false
  sb_NoText_NoNumber : PySem.W.subIn K (.ref C_NoText) (.ref C_NoNumber) = some false
  sb_NoText_NoRow : PySem.W.subIn K (.ref C_NoText) (.ref C_NoRow) = some false
  sb_NoText_NoName : PySem.W.subIn K (.ref C_NoText) (.ref C_NoName) = some false
  sb_NoText_Twice : PySem.W.subIn K (.ref C_NoText) (.ref C_Twice) = some false
  sb_NoText_Used : PySem.W.subIn K (.ref C_NoText) (.ref C_Used) = some false
  sb_NoText_NoGap : PySem.W.subIn K (.ref C_NoText) (.ref C_NoGap) = some false
  sb_NoText_NoTree : PySem.W.subIn K (.ref C_NoText) (.ref C_NoTree) = some false
  sb_NoText_NoUndo : PySem.W.subIn K (.ref C_NoText) (.ref C_NoUndo) = some false
  sb_NoText_NoFit : PySem.W.subIn K (.ref C_NoText) (.ref C_NoFit) = some false
  sb_NoText_NoMaking : PySem.W.subIn K (.ref C_NoText) (.ref C_NoMaking) = some false
  sb_NoStep_KindError : PySem.W.subIn K (.ref C_NoStep) (.ref C_KindError) = some true
  sb_NoStep_ValueError : PySem.W.subIn K (.ref C_NoStep) (.type "ValueError") = some true
  sb_NoStep_NoKind : PySem.W.subIn K (.ref C_NoStep) (.ref C_NoKind) = some false
  sb_NoStep_NoText : PySem.W.subIn K (.ref C_NoStep) (.ref C_NoText) = some false
  sb_NoStep_TooLong : PySem.W.subIn K (.ref C_NoStep) (.ref C_TooLong) = some false
  sb_NoStep_TooMany : PySem.W.subIn K (.ref C_NoStep) (.ref C_TooMany) = some false
  sb_NoStep_NoLong : PySem.W.subIn K (.ref C_NoStep) (.ref C_NoLong) = some false
  sb_NoStep_NoNumber : PySem.W.subIn K (.ref C_NoStep) (.ref C_NoNumber) = some false
  sb_NoStep_NoRow : PySem.W.subIn K (.ref C_NoStep) (.ref C_NoRow) = some false
  sb_NoStep_NoName : PySem.W.subIn K (.ref C_NoStep) (.ref C_NoName) = some false
  sb_NoStep_Twice : PySem.W.subIn K (.ref C_NoStep) (.ref C_Twice) = some false
  sb_NoStep_Used : PySem.W.subIn K (.ref C_NoStep) (.ref C_Used) = some false
  sb_NoStep_NoGap : PySem.W.subIn K (.ref C_NoStep) (.ref C_NoGap) = some false
  sb_NoStep_NoTree : PySem.W.subIn K (.ref C_NoStep) (.ref C_NoTree) = some false
  sb_NoStep_NoUndo : PySem.W.subIn K (.ref C_NoStep) (.ref C_NoUndo) = some false
  sb_NoStep_NoFit : PySem.W.subIn K (.ref C_NoStep) (.ref C_NoFit) = some false
  sb_NoStep_NoMaking : PySem.W.subIn K (.ref C_NoStep) (.ref C_NoMaking) = some false
  sb_TooLong_KindError : PySem.W.subIn K (.ref C_TooLong) (.ref C_KindError) = some true
  sb_TooLong_ValueError : PySem.W.subIn K (.ref C_TooLong) (.type "ValueError") = some true
  sb_TooLong_NoKind : PySem.W.subIn K (.ref C_TooLong) (.ref C_NoKind) = some false
  sb_TooLong_NoText : PySem.W.subIn K (.ref C_TooLong) (.ref C_NoText) = some false
  sb_TooLong_NoStep : PySem.W.subIn K (.ref C_TooLong) (.ref C_NoStep) = some false
  sb_TooLong_TooMany : PySem.W.subIn K (.ref C_TooLong) (.ref C_TooMany) = some false
  sb_TooLong_NoLong : PySem.W.subIn K (.ref C_TooLong) (.ref C_NoLong) = some false
  sb_TooLong_NoNumber : PySem.W.subIn K (.ref C_TooLong) (.ref C_NoNumber) = some false
  sb_TooLong_NoRow : PySem.W.subIn K (.ref C_TooLong) (.ref C_NoRow) = some false
  sb_TooLong_NoName : PySem.W.subIn K (.ref C_TooLong) (.ref C_NoName) = some false
  sb_TooLong_Twice : PySem.W.subIn K (.ref C_TooLong) (.ref C_Twice) = some false
  sb_TooLong_Used : PySem.W.subIn K (.ref C_TooLong) (.ref C_Used) = some false
  sb_TooLong_NoGap : PySem.W.subIn K (.ref C_TooLong) (.ref C_NoGap) = some false
  sb_TooLong_NoTree : PySem.W.subIn K (.ref C_TooLong) (.ref C_NoTree) = some false
  sb_TooLong_NoUndo : PySem.W.subIn K (.ref C_TooLong) (.ref C_NoUndo) = some false
  sb_TooLong_NoFit : PySem.W.subIn K (.ref C_TooLong) (.ref C_NoFit) = some false
  sb_TooLong_NoMaking : PySem.W.subIn K (.ref C_TooLong) (.ref C_NoMaking) = some false
  sb_TooMany_KindError : PySem.W.subIn K (.ref C_TooMany) (.ref C_KindError) = some true
  sb_TooMany_ValueError : PySem.W.subIn K (.ref C_TooMany) (.type "ValueError") = some true
  sb_TooMany_NoKind : PySem.W.subIn K (.ref C_TooMany) (.ref C_NoKind) = some false
  sb_TooMany_NoText : PySem.W.subIn K (.ref C_TooMany) (.ref C_NoText) = some false
  sb_TooMany_NoStep : PySem.W.subIn K (.ref C_TooMany) (.ref C_NoStep) = some false
  sb_TooMany_TooLong : PySem.W.subIn K (.ref C_TooMany) (.ref C_TooLong) = some false
  sb_TooMany_NoLong : PySem.W.subIn K (.ref C_TooMany) (.ref C_NoLong) = some false
  sb_TooMany_NoNumber : PySem.W.subIn K (.ref C_TooMany) (.ref C_NoNumber) = some false
  sb_TooMany_NoRow : PySem.W.subIn K (.ref C_TooMany) (.ref C_NoRow) = some false
  sb_TooMany_NoName : PySem.W.subIn K (.ref C_TooMany) (.ref C_NoName) = some false
  sb_TooMany_Twice : PySem.W.subIn K (.ref C_TooMany) (.ref C_Twice) = some false
  sb_TooMany_Used : PySem.W.subIn K (.ref C_TooMany) (.ref C_Used) = some false
  sb_TooMany_NoGap : PySem.W.subIn K (.ref C_TooMany) (.ref C_NoGap) = some false
  sb_TooMany_NoTree : PySem.W.subIn K (.ref C_TooMany) (.ref C_NoTree) = some false
  sb_TooMany_NoUndo : PySem.W.subIn K (.ref C_TooMany) (.ref C_NoUndo) = some false
  sb_TooMany_NoFit : PySem.W.subIn K (.ref C_TooMany) (.ref C_NoFit) = some false
  sb_TooMany_NoMaking : PySem.W.subIn K (.ref C_TooMany) (.ref C_NoMaking) = some false
  sb_NoLong_KindError : PySem.W.subIn K (.ref C_NoLong) (.ref C_KindError) = some true
  sb_NoLong_ValueError : PySem.W.subIn K (.ref C_NoLong) (.type "ValueError") = some true
  sb_NoLong_NoKind : PySem.W.subIn K (.ref C_NoLong) (.ref C_NoKind) = some false
  sb_NoLong_NoText : PySem.W.subIn K (.ref C_NoLong) (.ref C_NoText) = some false
  sb_NoLong_NoStep : PySem.W.subIn K (.ref C_NoLong) (.ref C_NoStep) = some false
  sb_NoLong_TooLong : PySem.W.subIn K (.ref C_NoLong) (.ref C_TooLong) = some false
  sb_NoLong_TooMany : PySem.W.subIn K (.ref C_NoLong) (.ref C_TooMany) = some false
  sb_NoLong_NoNumber : PySem.W.subIn K (.ref C_NoLong) (.ref C_NoNumber) = some false
  sb_NoLong_NoRow : PySem.W.subIn K (.ref C_NoLong) (.ref C_NoRow) = some false
  sb_NoLong_NoName : PySem.W.subIn K (.ref C_NoLong) (.ref C_NoName) = some false
  sb_NoLong_Twice : PySem.W.subIn K (.ref C_NoLong) (.ref C_Twice) = some false
  sb_NoLong_Used : PySem.W.subIn K (.ref C_NoLong) (.ref C_Used) = some false
  sb_NoLong_NoGap : PySem.W.subIn K (.ref C_NoLong) (.ref C_NoGap) = some false
  sb_NoLong_NoTree : PySem.W.subIn K (.ref C_NoLong) (.ref C_NoTree) = some false
  sb_NoLong_NoUndo : PySem.W.subIn K (.ref C_NoLong) (.ref C_NoUndo) = some false
  sb_NoLong_NoFit : PySem.W.subIn K (.ref C_NoLong) (.ref C_NoFit) = some false
  sb_NoLong_NoMaking : PySem.W.subIn K (.ref C_NoLong) (.ref C_NoMaking) = some false
  sb_NoNumber_KindError : PySem.W.subIn K (.ref C_NoNumber) (.ref C_KindError) = some true
  sb_NoNumber_ValueError : PySem.W.subIn K (.ref C_NoNumber) (.type "ValueError") = some true
  sb_NoNumber_NoKind : PySem.W.subIn K (.ref C_NoNumber) (.ref C_NoKind) = some false
  sb_NoNumber_NoText : PySem.W.subIn K (.ref C_NoNumber) (.ref C_NoText) = some false
  sb_NoNumber_NoStep : PySem.W.subIn K (.ref C_NoNumber) (.ref C_NoStep) = some false
  sb_NoNumber_TooLong : PySem.W.subIn K (.ref C_NoNumber) (.ref C_TooLong) = some false
  sb_NoNumber_TooMany : PySem.W.subIn K (.ref C_NoNumber) (.ref C_TooMany) = some false
  sb_NoNumber_NoLong : PySem.W.subIn K (.ref C_NoNumber) (.ref C_NoLong) = some false
  sb_NoNumber_NoRow : PySem.W.subIn K (.ref C_NoNumber) (.ref C_NoRow) = some false
  sb_NoNumber_NoName : PySem.W.subIn K (.ref C_NoNumber) (.ref C_NoName) = some false
  sb_NoNumber_Twice : PySem.W.subIn K (.ref C_NoNumber) (.ref C_Twice) = some false
  sb_NoNumber_Used : PySem.W.subIn K (.ref C_NoNumber) (.ref C_Used) = some false
  sb_NoNumber_NoGap : PySem.W.subIn K (.ref C_NoNumber) (.ref C_NoGap) = some false
  sb_NoNumber_NoTree : PySem.W.subIn K (.ref C_NoNumber) (.ref C_NoTree) = some false
  sb_NoNumber_NoUndo : PySem.W.subIn K (.ref C_NoNumber) (.ref C_NoUndo) = some false
  sb_NoNumber_NoFit : PySem.W.subIn K (.ref C_NoNumber) (.ref C_NoFit) = some false
  sb_NoNumber_NoMaking : PySem.W.subIn K (.ref C_NoNumber) (.ref C_NoMaking) = some false
  sb_NoRow_KindError : PySem.W.subIn K (.ref C_NoRow) (.ref C_KindError) = some true
  sb_NoRow_ValueError : PySem.W.subIn K (.ref C_NoRow) (.type "ValueError") = some true
  sb_NoRow_NoKind : PySem.W.subIn K (.ref C_NoRow) (.ref C_NoKind) = some false
  sb_NoRow_NoText : PySem.W.subIn K (.ref C_NoRow) (.ref C_NoText) = some false
  sb_NoRow_NoStep : PySem.W.subIn K (.ref C_NoRow) (.ref C_NoStep) = some false
  sb_NoRow_TooLong : PySem.W.subIn K (.ref C_NoRow) (.ref C_TooLong) = some false
  sb_NoRow_TooMany : PySem.W.subIn K (.ref C_NoRow) (.ref C_TooMany) = some false
  sb_NoRow_NoLong : PySem.W.subIn K (.ref C_NoRow) (.ref C_NoLong) = some false
  sb_NoRow_NoNumber : PySem.W.subIn K (.ref C_NoRow) (.ref C_NoNumber) = some false
  sb_NoRow_NoName : PySem.W.subIn K (.ref C_NoRow) (.ref C_NoName) = some false
  sb_NoRow_Twice : PySem.W.subIn K (.ref C_NoRow) (.ref C_Twice) = some false
  sb_NoRow_Used : PySem.W.subIn K (.ref C_NoRow) (.ref C_Used) = some false
  sb_NoRow_NoGap : PySem.W.subIn K (.ref C_NoRow) (.ref C_NoGap) = some false
  sb_NoRow_NoTree : PySem.W.subIn K (.ref C_NoRow) (.ref C_NoTree) = some false
  sb_NoRow_NoUndo : PySem.W.subIn K (.ref C_NoRow) (.ref C_NoUndo) = some false
  sb_NoRow_NoFit : PySem.W.subIn K (.ref C_NoRow) (.ref C_NoFit) = some false
  sb_NoRow_NoMaking : PySem.W.subIn K (.ref C_NoRow) (.ref C_NoMaking) = some false
  sb_NoName_KindError : PySem.W.subIn K (.ref C_NoName) (.ref C_KindError) = some true
  sb_NoName_ValueError : PySem.W.subIn K (.ref C_NoName) (.type "ValueError") = some true
  sb_NoName_NoKind : PySem.W.subIn K (.ref C_NoName) (.ref C_NoKind) = some false
  sb_NoName_NoText : PySem.W.subIn K (.ref C_NoName) (.ref C_NoText) = some false
  sb_NoName_NoStep : PySem.W.subIn K (.ref C_NoName) (.ref C_NoStep) = some false
  sb_NoName_TooLong : PySem.W.subIn K (.ref C_NoName) (.ref C_TooLong) = some false
  sb_NoName_TooMany : PySem.W.subIn K (.ref C_NoName) (.ref C_TooMany) = some false
  sb_NoName_NoLong : PySem.W.subIn K (.ref C_NoName) (.ref C_NoLong) = some false
  sb_NoName_NoNumber : PySem.W.subIn K (.ref C_NoName) (.ref C_NoNumber) = some false
  sb_NoName_NoRow : PySem.W.subIn K (.ref C_NoName) (.ref C_NoRow) = some false
  sb_NoName_Twice : PySem.W.subIn K (.ref C_NoName) (.ref C_Twice) = some false
  sb_NoName_Used : PySem.W.subIn K (.ref C_NoName) (.ref C_Used) = some false
  sb_NoName_NoGap : PySem.W.subIn K (.ref C_NoName) (.ref C_NoGap) = some false
  sb_NoName_NoTree : PySem.W.subIn K (.ref C_NoName) (.ref C_NoTree) = some false
  sb_NoName_NoUndo : PySem.W.subIn K (.ref C_NoName) (.ref C_NoUndo) = some false
  sb_NoName_NoFit : PySem.W.subIn K (.ref C_NoName) (.ref C_NoFit) = some false
  sb_NoName_NoMaking : PySem.W.subIn K (.ref C_NoName) (.ref C_NoMaking) = some false
  sb_Twice_KindError : PySem.W.subIn K (.ref C_Twice) (.ref C_KindError) = some true
  sb_Twice_ValueError : PySem.W.subIn K (.ref C_Twice) (.type "ValueError") = some true
  sb_Twice_NoKind : PySem.W.subIn K (.ref C_Twice) (.ref C_NoKind) = some false
  sb_Twice_NoText : PySem.W.subIn K (.ref C_Twice) (.ref C_NoText) = some false
  sb_Twice_NoStep : PySem.W.subIn K (.ref C_Twice) (.ref C_NoStep) = some false
  sb_Twice_TooLong : PySem.W.subIn K (.ref C_Twice) (.ref C_TooLong) = some false
  sb_Twice_TooMany : PySem.W.subIn K (.ref C_Twice) (.ref C_TooMany) = some false
  sb_Twice_NoLong : PySem.W.subIn K (.ref C_Twice) (.ref C_NoLong) = some false
  sb_Twice_NoNumber : PySem.W.subIn K (.ref C_Twice) (.ref C_NoNumber) = some false
  sb_Twice_NoRow : PySem.W.subIn K (.ref C_Twice) (.ref C_NoRow) = some false
  sb_Twice_NoName : PySem.W.subIn K (.ref C_Twice) (.ref C_NoName) = some false
  sb_Twice_Used : PySem.W.subIn K (.ref C_Twice) (.ref C_Used) = some false
  sb_Twice_NoGap : PySem.W.subIn K (.ref C_Twice) (.ref C_NoGap) = some false
  sb_Twice_NoTree : PySem.W.subIn K (.ref C_Twice) (.ref C_NoTree) = some false
  sb_Twice_NoUndo : PySem.W.subIn K (.ref C_Twice) (.ref C_NoUndo) = some false
  sb_Twice_NoFit : PySem.W.subIn K (.ref C_Twice) (.ref C_NoFit) = some false
  sb_Twice_NoMaking : PySem.W.subIn K (.ref C_Twice) (.ref C_NoMaking) = some false
  sb_Used_KindError : PySem.W.subIn K (.ref C_Used) (.ref C_KindError) = some true
  sb_Used_ValueError : PySem.W.subIn K (.ref C_Used) (.type "ValueError") = some true
  sb_Used_NoKind : PySem.W.subIn K (.ref C_Used) (.ref C_NoKind) = some false
  sb_Used_NoText : PySem.W.subIn K (.ref C_Used) (.ref C_NoText) = some false
  sb_Used_NoStep : PySem.W.subIn K (.ref C_Used) (.ref C_NoStep) = some false
  sb_Used_TooLong : PySem.W.subIn K (.ref C_Used) (.ref C_TooLong) = some false
  sb_Used_TooMany : PySem.W.subIn K (.ref C_Used) (.ref C_TooMany) = some false
  sb_Used_NoLong : PySem.W.subIn K (.ref C_Used) (.ref C_NoLong) = some false
  sb_Used_NoNumber : PySem.W.subIn K (.ref C_Used) (.ref C_NoNumber) = some false
  sb_Used_NoRow : PySem.W.subIn K (.ref C_Used) (.ref C_NoRow) = some false
  sb_Used_NoName : PySem.W.subIn K (.ref C_Used) (.ref C_NoName) = some false
  sb_Used_Twice : PySem.W.subIn K (.ref C_Used) (.ref C_Twice) = some false
  sb_Used_NoGap : PySem.W.subIn K (.ref C_Used) (.ref C_NoGap) = some false
  sb_Used_NoTree : PySem.W.subIn K (.ref C_Used) (.ref C_NoTree) = some false
  sb_Used_NoUndo : PySem.W.subIn K (.ref C_Used) (.ref C_NoUndo) = some false
  sb_Used_NoFit : PySem.W.subIn K (.ref C_Used) (.ref C_NoFit) = some false
  sb_Used_NoMaking : PySem.W.subIn K (.ref C_Used) (.ref C_NoMaking) = some false
  sb_NoGap_KindError : PySem.W.subIn K (.ref C_NoGap) (.ref C_KindError) = some true
  sb_NoGap_ValueError : PySem.W.subIn K (.ref C_NoGap) (.type "ValueError") = some true
  sb_NoGap_NoKind : PySem.W.subIn K (.ref C_NoGap) (.ref C_NoKind) = some false
  sb_NoGap_NoText : PySem.W.subIn K (.ref C_NoGap) (.ref C_NoText) = some false
  sb_NoGap_NoStep : PySem.W.subIn K (.ref C_NoGap) (.ref C_NoStep) = some false
  sb_NoGap_TooLong : PySem.W.subIn K (.ref C_NoGap) (.ref C_TooLong) = some false
  sb_NoGap_TooMany : PySem.W.subIn K (.ref C_NoGap) (.ref C_TooMany) = some false
  sb_NoGap_NoLong : PySem.W.subIn K (.ref C_NoGap) (.ref C_NoLong) = some false
  sb_NoGap_NoNumber : PySem.W.subIn K (.ref C_NoGap) (.ref C_NoNumber) = some false
  sb_NoGap_NoRow : PySem.W.subIn K (.ref C_NoGap) (.ref C_NoRow) = some false
  sb_NoGap_NoName : PySem.W.subIn K (.ref C_NoGap) (.ref C_NoName) = some false
  sb_NoGap_Twice : PySem.W.subIn K (.ref C_NoGap) (.ref C_Twice) = some false
  sb_NoGap_Used : PySem.W.subIn K (.ref C_NoGap) (.ref C_Used) = some false
  sb_NoGap_NoTree : PySem.W.subIn K (.ref C_NoGap) (.ref C_NoTree) = some false
  sb_NoGap_NoUndo : PySem.W.subIn K (.ref C_NoGap) (.ref C_NoUndo) = some false
  sb_NoGap_NoFit : PySem.W.subIn K (.ref C_NoGap) (.ref C_NoFit) = some false
  sb_NoGap_NoMaking : PySem.W.subIn K (.ref C_NoGap) (.ref C_NoMaking) = some false
  sb_NoTree_KindError : PySem.W.subIn K (.ref C_NoTree) (.ref C_KindError) = some true
  sb_NoTree_ValueError : PySem.W.subIn K (.ref C_NoTree) (.type "ValueError") = some true
  sb_NoTree_NoKind : PySem.W.subIn K (.ref C_NoTree) (.ref C_NoKind) = some false
  sb_NoTree_NoText : PySem.W.subIn K (.ref C_NoTree) (.ref C_NoText) = some false
  sb_NoTree_NoStep : PySem.W.subIn K (.ref C_NoTree) (.ref C_NoStep) = some false
  sb_NoTree_TooLong : PySem.W.subIn K (.ref C_NoTree) (.ref C_TooLong) = some false
  sb_NoTree_TooMany : PySem.W.subIn K (.ref C_NoTree) (.ref C_TooMany) = some false
  sb_NoTree_NoLong : PySem.W.subIn K (.ref C_NoTree) (.ref C_NoLong) = some false
  sb_NoTree_NoNumber : PySem.W.subIn K (.ref C_NoTree) (.ref C_NoNumber) = some false
  sb_NoTree_NoRow : PySem.W.subIn K (.ref C_NoTree) (.ref C_NoRow) = some false
  sb_NoTree_NoName : PySem.W.subIn K (.ref C_NoTree) (.ref C_NoName) = some false
  sb_NoTree_Twice : PySem.W.subIn K (.ref C_NoTree) (.ref C_Twice) = some false
  sb_NoTree_Used : PySem.W.subIn K (.ref C_NoTree) (.ref C_Used) = some false
  sb_NoTree_NoGap : PySem.W.subIn K (.ref C_NoTree) (.ref C_NoGap) = some false
  sb_NoTree_NoUndo : PySem.W.subIn K (.ref C_NoTree) (.ref C_NoUndo) = some false
  sb_NoTree_NoFit : PySem.W.subIn K (.ref C_NoTree) (.ref C_NoFit) = some false
  sb_NoTree_NoMaking : PySem.W.subIn K (.ref C_NoTree) (.ref C_NoMaking) = some false
  sb_NoUndo_KindError : PySem.W.subIn K (.ref C_NoUndo) (.ref C_KindError) = some true
  sb_NoUndo_ValueError : PySem.W.subIn K (.ref C_NoUndo) (.type "ValueError") = some true
  sb_NoUndo_NoKind : PySem.W.subIn K (.ref C_NoUndo) (.ref C_NoKind) = some false
  sb_NoUndo_NoText : PySem.W.subIn K (.ref C_NoUndo) (.ref C_NoText) = some false
  sb_NoUndo_NoStep : PySem.W.subIn K (.ref C_NoUndo) (.ref C_NoStep) = some false
  sb_NoUndo_TooLong : PySem.W.subIn K (.ref C_NoUndo) (.ref C_TooLong) = some false
  sb_NoUndo_TooMany : PySem.W.subIn K (.ref C_NoUndo) (.ref C_TooMany) = some false
  sb_NoUndo_NoLong : PySem.W.subIn K (.ref C_NoUndo) (.ref C_NoLong) = some false
  sb_NoUndo_NoNumber : PySem.W.subIn K (.ref C_NoUndo) (.ref C_NoNumber) = some false
  sb_NoUndo_NoRow : PySem.W.subIn K (.ref C_NoUndo) (.ref C_NoRow) = some false
  sb_NoUndo_NoName : PySem.W.subIn K (.ref C_NoUndo) (.ref C_NoName) = some false
  sb_NoUndo_Twice : PySem.W.subIn K (.ref C_NoUndo) (.ref C_Twice) = some false
  sb_NoUndo_Used : PySem.W.subIn K (.ref C_NoUndo) (.ref C_Used) = some false
  sb_NoUndo_NoGap : PySem.W.subIn K (.ref C_NoUndo) (.ref C_NoGap) = some false
  sb_NoUndo_NoTree : PySem.W.subIn K (.ref C_NoUndo) (.ref C_NoTree) = some false
  sb_NoUndo_NoFit : PySem.W.subIn K (.ref C_NoUndo) (.ref C_NoFit) = some false
  sb_NoUndo_NoMaking : PySem.W.subIn K (.ref C_NoUndo) (.ref C_NoMaking) = some false
  sb_NoFit_KindError : PySem.W.subIn K (.ref C_NoFit) (.ref C_KindError) = some true
  sb_NoFit_ValueError : PySem.W.subIn K (.ref C_NoFit) (.type "ValueError") = some true
  sb_NoFit_NoKind : PySem.W.subIn K (.ref C_NoFit) (.ref C_NoKind) = some false
  sb_NoFit_NoText : PySem.W.subIn K (.ref C_NoFit) (.ref C_NoText) = some false
  sb_NoFit_NoStep : PySem.W.subIn K (.ref C_NoFit) (.ref C_NoStep) = some false
  sb_NoFit_TooLong : PySem.W.subIn K (.ref C_NoFit) (.ref C_TooLong) = some false
  sb_NoFit_TooMany : PySem.W.subIn K (.ref C_NoFit) (.ref C_TooMany) = some false
  sb_NoFit_NoLong : PySem.W.subIn K (.ref C_NoFit) (.ref C_NoLong) = some false
  sb_NoFit_NoNumber : PySem.W.subIn K (.ref C_NoFit) (.ref C_NoNumber) = some false
  sb_NoFit_NoRow : PySem.W.subIn K (.ref C_NoFit) (.ref C_NoRow) = some false
  sb_NoFit_NoName : PySem.W.subIn K (.ref C_NoFit) (.ref C_NoName) = some false
  sb_NoFit_Twice : PySem.W.subIn K (.ref C_NoFit) (.ref C_Twice) = some false
  sb_NoFit_Used : PySem.W.subIn K (.ref C_NoFit) (.ref C_Used) = some false
  sb_NoFit_NoGap : PySem.W.subIn K (.ref C_NoFit) (.ref C_NoGap) = some false
  sb_NoFit_NoTree : PySem.W.subIn K (.ref C_NoFit) (.ref C_NoTree) = some false
  sb_NoFit_NoUndo : PySem.W.subIn K (.ref C_NoFit) (.ref C_NoUndo) = some false
  sb_NoFit_NoMaking : PySem.W.subIn K (.ref C_NoFit) (.ref C_NoMaking) = some false
  sb_NoMaking_KindError : PySem.W.subIn K (.ref C_NoMaking) (.ref C_KindError) = some true
  sb_NoMaking_ValueError : PySem.W.subIn K (.ref C_NoMaking) (.type "ValueError") = some true
  sb_NoMaking_NoKind : PySem.W.subIn K (.ref C_NoMaking) (.ref C_NoKind) = some false
  sb_NoMaking_NoText : PySem.W.subIn K (.ref C_NoMaking) (.ref C_NoText) = some false
  sb_NoMaking_NoStep : PySem.W.subIn K (.ref C_NoMaking) (.ref C_NoStep) = some false
  sb_NoMaking_TooLong : PySem.W.subIn K (.ref C_NoMaking) (.ref C_TooLong) = some false
  sb_NoMaking_TooMany : PySem.W.subIn K (.ref C_NoMaking) (.ref C_TooMany) = some false
  sb_NoMaking_NoLong : PySem.W.subIn K (.ref C_NoMaking) (.ref C_NoLong) = some false
  sb_NoMaking_NoNumber : PySem.W.subIn K (.ref C_NoMaking) (.ref C_NoNumber) = some false
  sb_NoMaking_NoRow : PySem.W.subIn K (.ref C_NoMaking) (.ref C_NoRow) = some false
  sb_NoMaking_NoName : PySem.W.subIn K (.ref C_NoMaking) (.ref C_NoName) = some false
  sb_NoMaking_Twice : PySem.W.subIn K (.ref C_NoMaking) (.ref C_Twice) = some false
  sb_NoMaking_Used : PySem.W.subIn K (.ref C_NoMaking) (.ref C_Used) = some false
  sb_NoMaking_NoGap : PySem.W.subIn K (.ref C_NoMaking) (.ref C_NoGap) = some false
  sb_NoMaking_NoTree : PySem.W.subIn K (.ref C_NoMaking) (.ref C_NoTree) = some false
  sb_NoMaking_NoUndo : PySem.W.subIn K (.ref C_NoMaking) (.ref C_NoUndo) = some false
  sb_NoMaking_NoFit : PySem.W.subIn K (.ref C_NoMaking) (.ref C_NoFit) = some false
section
variable {P : Program} {w : World} {K : PySem.W.Frag} {mg : Str → Option Value} {base : Heap}
abbrev FO__law_pool (P : Program) (w : World) (base : Heap) (T : Tx K mg) (k : Nat) (sp : DSp) : Prop := FnOk P w K mg base CX0 k T.a__law_pool T.fd__law_pool P__law_pool (liftSp K sp)
abbrev FO__law_take (P : Program) (w : World) (base : Heap) (T : Tx K mg) (k : Nat) (sp : DSp) : Prop := FnOk P w K mg base CX0 k T.a__law_take T.fd__law_take P__law_take (liftSp K sp)
abbrev FO__law_made (P : Program) (w : World) (base : Heap) (T : Tx K mg) (k : Nat) (sp : DSp) : Prop := FnOk P w K mg base CX0 k T.a__law_made T.fd__law_made P__law_made (liftSp K sp)
abbrev FO__law_kinds (P : Program) (w : World) (base : Heap) (T : Tx K mg) (k : Nat) (sp : DSp) : Prop := FnOk P w K mg base CX0 k T.a__law_kinds T.fd__law_kinds P__law_kinds (liftSp K sp)
abbrev FO_law (P : Program) (w : World) (base : Heap) (T : Tx K mg) (k : Nat) (sp : DSp) : Prop := FnOk P w K mg base CX0 k T.a_law T.fd_law P_law (liftSp K sp)
theorem gi_NoFit (T : Tx K mg) : FnOk P w K mg base CX0 1 T.fI_NoFit T.fdI_NoFit P_NoFit___init__ (spI T.C_NoFit "place") := ini_NoFit T.bx_KindError T.xi_NoFit.F T.xi_NoFit.T T.xi_NoFit.no
theorem gi_NoMaking (T : Tx K mg) : FnOk P w K mg base CX0 1 T.fI_NoMaking T.fdI_NoMaking P_NoMaking___init__ (spI T.C_NoMaking "at") := ini_NoMaking T.bx_KindError T.xi_NoMaking.F T.xi_NoMaking.T T.xi_NoMaking.no
theorem fnd__law_pool {k : Nat} {dsp  : DSp} (T : Tx K mg) 
    (len : ∀ ds O R RE, dsp ds O R RE → ds.length = 2) (hread : ∀ ds O R RE, dsp ds O R RE → g__law_pool  { nx := fun _ O' => R .non O', rt := R } (startD N__law_pool ds) O) : FO__law_pool P w base T (k + 1) dsp :=
  fn_d (g := g__law_pool ) T.n__law_pool.F sc__law_pool len (der__law_pool T.m_len) hread
theorem fndG__law_pool {k : Nat} {dsp  : DSp} (T : Tx K mg) 
    (len : ∀ ds O R RE, dsp ds O R RE → ds.length = 2) (hread : ∀ ds O R RE, dsp ds O R RE → g__law_pool  { nx := fun _ O' => VG R .non O', rt := VG R } (startD N__law_pool ds) O) : FO__law_pool P w base T (k + 1) dsp :=
  fn_dG (g := g__law_pool ) T.n__law_pool.F sc__law_pool len (der__law_pool T.m_len) hread
theorem fnd__law_take {k : Nat} {dsp  : DSp} (T : Tx K mg) 
    (len : ∀ ds O R RE, dsp ds O R RE → ds.length = 2) (hread : ∀ ds O R RE, dsp ds O R RE → g__law_take  { nx := fun _ O' => R .non O', rt := R } (startD N__law_take ds) O) : FO__law_take P w base T (k + 1) dsp :=
  fn_d (g := g__law_take ) T.n__law_take.F sc__law_take len (der__law_take ) hread
theorem fndG__law_take {k : Nat} {dsp  : DSp} (T : Tx K mg) 
    (len : ∀ ds O R RE, dsp ds O R RE → ds.length = 2) (hread : ∀ ds O R RE, dsp ds O R RE → g__law_take  { nx := fun _ O' => VG R .non O', rt := VG R } (startD N__law_take ds) O) : FO__law_take P w base T (k + 1) dsp :=
  fn_dG (g := g__law_take ) T.n__law_take.F sc__law_take len (der__law_take ) hread
theorem fnd__law_made {k : Nat} {dsp  : DSp} (T : Tx K mg)  (h2 : 2 ≤ k)
    (len : ∀ ds O R RE, dsp ds O R RE → ds.length = 2) (hread : ∀ ds O R RE, dsp ds O R RE → g__law_made T.C_NoKind T.C_NoText T.C_NoStep T.C_TooLong T.C_TooMany T.C_NoLong T.C_NoNumber T.C_NoRow T.C_NoName T.C_Twice T.C_Used T.C_NoGap T.C_NoTree T.C_NoUndo T.C_NoFit T.C_NoMaking { nx := fun _ O' => R .non O', rt := R } (startD N__law_made ds) O) : FO__law_made P w base T (k + 1) dsp :=
  fn_d (g := g__law_made T.C_NoKind T.C_NoText T.C_NoStep T.C_TooLong T.C_TooMany T.C_NoLong T.C_NoNumber T.C_NoRow T.C_NoName T.C_Twice T.C_Used T.C_NoGap T.C_NoTree T.C_NoUndo T.C_NoFit T.C_NoMaking) T.n__law_made.F sc__law_made len (der__law_made T.m_len T.x_NoKind T.x_NoText T.x_NoStep T.x_TooLong T.x_TooMany T.x_NoLong T.x_NoNumber T.x_NoRow T.x_NoName T.x_Twice T.x_Used T.x_NoGap T.x_NoTree T.x_NoUndo T.xi_NoFit (gi_NoFit T) h2 T.xi_NoMaking (gi_NoMaking T) h2) hread
theorem fndG__law_made {k : Nat} {dsp  : DSp} (T : Tx K mg)  (h2 : 2 ≤ k)
    (len : ∀ ds O R RE, dsp ds O R RE → ds.length = 2) (hread : ∀ ds O R RE, dsp ds O R RE → g__law_made T.C_NoKind T.C_NoText T.C_NoStep T.C_TooLong T.C_TooMany T.C_NoLong T.C_NoNumber T.C_NoRow T.C_NoName T.C_Twice T.C_Used T.C_NoGap T.C_NoTree T.C_NoUndo T.C_NoFit T.C_NoMaking { nx := fun _ O' => VG R .non O', rt := VG R } (startD N__law_made ds) O) : FO__law_made P w base T (k + 1) dsp :=
  fn_dG (g := g__law_made T.C_NoKind T.C_NoText T.C_NoStep T.C_TooLong T.C_TooMany T.C_NoLong T.C_NoNumber T.C_NoRow T.C_NoName T.C_Twice T.C_Used T.C_NoGap T.C_NoTree T.C_NoUndo T.C_NoFit T.C_NoMaking) T.n__law_made.F sc__law_made len (der__law_made T.m_len T.x_NoKind T.x_NoText T.x_NoStep T.x_TooLong T.x_TooMany T.x_NoLong T.x_NoNumber T.x_NoRow T.x_NoName T.x_Twice T.x_Used T.x_NoGap T.x_NoTree T.x_NoUndo T.xi_NoFit (gi_NoFit T) h2 T.xi_NoMaking (gi_NoMaking T) h2) hread
theorem fnd__law_kinds {k : Nat} {dsp  : DSp} (T : Tx K mg) 
    (len : ∀ ds O R RE, dsp ds O R RE → ds.length = 1) (hread : ∀ ds O R RE, dsp ds O R RE → g__law_kinds K T.C_NoKind T.C_NoText T.C_NoStep T.C_TooLong T.C_TooMany T.C_NoLong T.C_NoNumber T.C_NoRow T.C_NoName T.C_Twice T.C_Used T.C_NoGap T.C_NoTree T.C_NoUndo T.C_NoFit T.C_NoMaking { nx := fun _ O' => R .non O', rt := R } (startD N__law_kinds ds) O) : FO__law_kinds P w base T (k + 1) dsp :=
  fn_d (g := g__law_kinds K T.C_NoKind T.C_NoText T.C_NoStep T.C_TooLong T.C_TooMany T.C_NoLong T.C_NoNumber T.C_NoRow T.C_NoName T.C_Twice T.C_Used T.C_NoGap T.C_NoTree T.C_NoUndo T.C_NoFit T.C_NoMaking) T.n__law_kinds.F sc__law_kinds len (der__law_kinds T.m_isinstance T.k_NoKind T.k_NoText T.k_NoStep T.k_TooLong T.k_TooMany T.k_NoLong T.k_NoNumber T.k_NoRow T.k_NoName T.k_Twice T.k_Used T.k_NoGap T.k_NoTree T.k_NoUndo T.k_NoFit T.k_NoMaking) hread
theorem fndG__law_kinds {k : Nat} {dsp  : DSp} (T : Tx K mg) 
    (len : ∀ ds O R RE, dsp ds O R RE → ds.length = 1) (hread : ∀ ds O R RE, dsp ds O R RE → g__law_kinds K T.C_NoKind T.C_NoText T.C_NoStep T.C_TooLong T.C_TooMany T.C_NoLong T.C_NoNumber T.C_NoRow T.C_NoName T.C_Twice T.C_Used T.C_NoGap T.C_NoTree T.C_NoUndo T.C_NoFit T.C_NoMaking { nx := fun _ O' => VG R .non O', rt := VG R } (startD N__law_kinds ds) O) : FO__law_kinds P w base T (k + 1) dsp :=
  fn_dG (g := g__law_kinds K T.C_NoKind T.C_NoText T.C_NoStep T.C_TooLong T.C_TooMany T.C_NoLong T.C_NoNumber T.C_NoRow T.C_NoName T.C_Twice T.C_Used T.C_NoGap T.C_NoTree T.C_NoUndo T.C_NoFit T.C_NoMaking) T.n__law_kinds.F sc__law_kinds len (der__law_kinds T.m_isinstance T.k_NoKind T.k_NoText T.k_NoStep T.k_TooLong T.k_TooMany T.k_NoLong T.k_NoNumber T.k_NoRow T.k_NoName T.k_Twice T.k_Used T.k_NoGap T.k_NoTree T.k_NoUndo T.k_NoFit T.k_NoMaking) hread
theorem fnd_law {k : Nat} {dsp sp__law_pool sp__law_take sp__law_made sp__law_kinds : DSp} (T : Tx K mg) (G__law_pool : FO__law_pool P w base T k sp__law_pool) (G__law_take : FO__law_take P w base T k sp__law_take) (G__law_made : FO__law_made P w base T k sp__law_made) (G__law_kinds : FO__law_kinds P w base T k sp__law_kinds)
    (len : ∀ ds O R RE, dsp ds O R RE → ds.length = 1) (hread : ∀ ds O R RE, dsp ds O R RE → g_law sp__law_pool sp__law_take sp__law_made sp__law_kinds K T.C_KindError { nx := fun _ O' => R .non O', rt := R } (startD N_law ds) O) : FO_law P w base T (k + 1) dsp :=
  fn_d (g := g_law sp__law_pool sp__law_take sp__law_made sp__law_kinds K T.C_KindError) T.n_law.F sc_law len (der_law T.n__law_pool G__law_pool T.n__law_take G__law_take T.n__law_made G__law_made T.n__law_kinds G__law_kinds T.m_range T.m_isinstance T.m_ValueError T.m_len T.k_KindError) hread
theorem fndG_law {k : Nat} {dsp sp__law_pool sp__law_take sp__law_made sp__law_kinds : DSp} (T : Tx K mg) (G__law_pool : FO__law_pool P w base T k sp__law_pool) (G__law_take : FO__law_take P w base T k sp__law_take) (G__law_made : FO__law_made P w base T k sp__law_made) (G__law_kinds : FO__law_kinds P w base T k sp__law_kinds)
    (len : ∀ ds O R RE, dsp ds O R RE → ds.length = 1) (hread : ∀ ds O R RE, dsp ds O R RE → g_law sp__law_pool sp__law_take sp__law_made sp__law_kinds K T.C_KindError { nx := fun _ O' => VG R .non O', rt := VG R } (startD N_law ds) O) : FO_law P w base T (k + 1) dsp :=
  fn_dG (g := g_law sp__law_pool sp__law_take sp__law_made sp__law_kinds K T.C_KindError) T.n_law.F sc_law len (der_law T.n__law_pool G__law_pool T.n__law_take G__law_take T.n__law_made G__law_made T.n__law_kinds G__law_kinds T.m_range T.m_isinstance T.m_ValueError T.m_len T.k_KindError) hread
end
end Kf
namespace Kf
open PySem PySem.Spec L2
open PyProof.Rows hiding St
/-! ### comprehensions over a list of things -/
section
variable {p : Pat} {ft : FT} {fe : FE} {ρ : DEnv} {O : Ow} {α β : Type}
theorem lcA_map (f g : α → D) : ∀ (xs : List α) (acc : List D) (Q : List D → Ow → Prop), acc.length + xs.length ≤ sizeLine →
    (∀ x ∈ xs, ∀ Q' : VD, Q' (g x) O → patGet (patD p (f x) ρ) fun ρ1 => fe ρ1 O Q') → Q (acc ++ xs.map g) O → lcD p fYes fe ρ (xs.map f) acc O Q
  | [], acc, Q, _, _, q => by simpa [lcD] using q
  | x :: xs, acc, Q, hl, hs, q => by
    rw [List.length_cons] at hl
    have z := hs x List.mem_cons_self (fun e O2 => acc.length < sizeLine ∧ lcD p fYes fe ρ (xs.map f) (acc ++ [e]) O2 Q) ⟨by omega, lcA_map f g xs _ Q (by rw [List.length_append, List.length_singleton]; omega) (fun d' hd => hs d' (List.mem_cons_of_mem _ hd)) (by simpa using q)⟩
    rw [List.map_cons]
    unfold lcD
    simpa [fYes] using z
theorem lcA_filter (b : α → Bool) (f g : α → D) : ∀ (xs : List α) (acc : List D) (Q : List D → Ow → Prop), acc.length + xs.length ≤ sizeLine →
    (∀ x ∈ xs, ∀ (Q1 : VD) (Q2 : Ow → Prop), (b x = true → Q1 (g x) O) → (b x = false → Q2 O) → patGet (patD p (f x) ρ) fun ρ1 => ft ρ1 O fun k O1 => if k = true then fe ρ1 O1 Q1 else Q2 O1) → Q (acc ++ (xs.filter b).map g) O → lcD p ft fe ρ (xs.map f) acc O Q
  | [], acc, Q, _, _, q => by simpa [lcD] using q
  | x :: xs, acc, Q, hl, hs, q => by
    rw [List.length_cons] at hl
    have z := hs x List.mem_cons_self (fun e O2 => acc.length < sizeLine ∧ lcD p ft fe ρ (xs.map f) (acc ++ [e]) O2 Q) (fun O2 => lcD p ft fe ρ (xs.map f) acc O2 Q)
      (fun hb => ⟨by omega, lcA_filter b f g xs _ Q (by rw [List.length_append, List.length_singleton]; omega) (fun d' hd => hs d' (List.mem_cons_of_mem _ hd)) (by simpa [List.filter_cons, hb] using q)⟩)
      (fun hb => lcA_filter b f g xs _ Q (by omega) (fun d' hd => hs d' (List.mem_cons_of_mem _ hd)) (by simpa [List.filter_cons, hb] using q))
    rw [List.map_cons]
    unfold lcD
    exact z
/-- .. that keeps some of them, those that it must at least -/
theorem lcA_sub (must : α → Prop) (f g : α → D) : ∀ (xs : List α) (acc : List D) (Q : List D → Ow → Prop), acc.length + xs.length ≤ sizeLine →
    (∀ x ∈ xs, ∀ (Q1 : VD) (Q2 : Ow → Prop), Q1 (g x) O → (¬ must x → Q2 O) → patGet (patD p (f x) ρ) fun ρ1 => ft ρ1 O fun k O1 => if k = true then fe ρ1 O1 Q1 else Q2 O1) →
    (∀ ys : List α, ys.Sublist xs → (∀ x ∈ xs, must x → x ∈ ys) → Q (acc ++ ys.map g) O) → lcD p ft fe ρ (xs.map f) acc O Q
  | [], acc, Q, _, _, q => by have := q [] (List.Sublist.refl _) (fun x h => nomatch h); simpa [lcD] using this
  | x :: xs, acc, Q, hl, hs, q => by
    rw [List.length_cons] at hl
    have z := hs x List.mem_cons_self (fun e O2 => acc.length < sizeLine ∧ lcD p ft fe ρ (xs.map f) (acc ++ [e]) O2 Q) (fun O2 => lcD p ft fe ρ (xs.map f) acc O2 Q)
      ⟨by omega, lcA_sub must f g xs _ Q (by rw [List.length_append, List.length_singleton]; omega) (fun d' hd => hs d' (List.mem_cons_of_mem _ hd)) fun ys h1 h2 => by
        have := q (x :: ys) (h1.cons₂ x) fun u hu hm => by
          rcases List.mem_cons.mp hu with rfl | hu
          · exact List.mem_cons_self
          · exact List.mem_cons_of_mem _ (h2 u hu hm)
        simpa using this⟩
      (fun hb => lcA_sub must f g xs _ Q (by omega) (fun d' hd => hs d' (List.mem_cons_of_mem _ hd)) fun ys h1 h2 => q ys (h1.cons x) fun u hu hm => by
          rcases List.mem_cons.mp hu with rfl | hu
          · exact absurd hm hb
          · exact h2 u hu hm)
    rw [List.map_cons]
    unfold lcD
    exact z
/-- .. each item one of many, the things of some kind -/
theorem lcA_all (G : β → Prop) (f : α → D) (g : β → D) : ∀ (xs : List α) (acc : List D) (Q : List D → Ow → Prop), acc.length + xs.length ≤ sizeLine →
    (∀ x ∈ xs, ∀ Q' : VD, (∀ y, G y → Q' (g y) O) → patGet (patD p (f x) ρ) fun ρ1 => fe ρ1 O Q') → (∀ ys : List β, ys.length = xs.length → (∀ y ∈ ys, G y) → Q (acc ++ ys.map g) O) → lcD p fYes fe ρ (xs.map f) acc O Q
  | [], acc, Q, _, _, q => by have := q [] rfl (fun x h => nomatch h); simpa [lcD] using this
  | x :: xs, acc, Q, hl, hs, q => by
    rw [List.length_cons] at hl
    have z := hs x List.mem_cons_self (fun e O2 => acc.length < sizeLine ∧ lcD p fYes fe ρ (xs.map f) (acc ++ [e]) O2 Q) fun y hy => ⟨by omega, lcA_all G f g xs _ Q (by rw [List.length_append, List.length_singleton]; omega) (fun d' hd => hs d' (List.mem_cons_of_mem _ hd)) fun ys h1 h2 => by
      have := q (y :: ys) (by rw [List.length_cons, List.length_cons, h1]) fun u hu => by
        rcases List.mem_cons.mp hu with rfl | hu
        · exact hy
        · exact h2 u hu
      simpa using this⟩
    rw [List.map_cons]
    unfold lcD
    simpa [fYes] using z
end
/-- range as a map -/
theorem rangeD_map (lo : Int) (n : Nat) : rangeD lo n = (List.range n).map fun i => D.int (lo + (i : Nat)) := rfl
/-- a walk over a map, by places -/
theorem forA_ix {p : Pat} {gb : GS} {R : DEnds} {α : Type} (f : α → D) (I : List α → List α → DEnv → Ow → Prop) : ∀ (xs pre : List α) (ρ : DEnv) (O : Ow), I pre xs ρ O → (∀ ρ O, I (pre ++ xs) [] ρ O → R.nx ρ O) →
    (∀ pre' x rest, pre ++ xs = pre' ++ x :: rest → ∀ ρ O, I pre' (x :: rest) ρ O → ∀ N : DEnv → Ow → Prop, (∀ ρ O, I (pre' ++ [x]) rest ρ O → N ρ O) → patGet (patD p (f x) ρ) fun ρ1 => gb { R with nx := N, ct := N, bk := R.nx } ρ1 O) → forD p gb R (xs.map f) ρ O
  | [], pre, ρ, O, h, hd, _ => hd ρ O (by rw [List.append_nil]; exact h)
  | x :: xs, pre, ρ, O, h, hd, hs => by
    have q := hs pre x xs rfl ρ O h (forD p gb R (xs.map f)) fun ρ' O' h' => by
      refine forA_ix f I xs (pre ++ [x]) ρ' O' h' (fun ρ O z => hd ρ O ?_) fun pre' y rest e => hs pre' y rest ?_
      · simpa using z
      · rw [← e]; simp
    rw [List.map_cons]
    unfold forD
    exact q
end Kf
namespace Kf
open PySem PySem.Spec L2
open PyProof.Rows hiding St
section
variable {P : Program} {w : World} {K : PySem.W.Frag} {mg : Str → Option Value} {base : Heap} {CX : CXT} {f : Addr} {fd : FuncData} {ps : List Str} {k k' : Nat}
theorem fnUp {sp : Sp} (h : FnOk P w K mg base CX k f fd ps sp) (hk : k ≤ k') : FnOk P w K mg base CX k' f fd ps sp :=
  ⟨h.1, fun A outer s H args us vs Q E a b c d e => h.2 A outer s H args us vs Q E (a.mono hk) b c d e⟩
theorem fnLess {dsp dsp' : DSp} (h : FnOk P w K mg base CX k f fd ps (liftSp K dsp)) (hs : ∀ ds O R RE, dsp' ds O R RE → dsp ds O R RE) : FnOk P w K mg base CX k f fd ps (liftSp K dsp') := by
  have hs' : ∀ vs H Q E, liftSp K dsp' vs H Q E → liftSp K dsp vs H Q E := fun vs H Q E ⟨F, O, P, ds, R, RE, g, r, q, z⟩ => ⟨F, O, P, ds, R, RE, g, r, hs _ _ _ _ q, z⟩
  exact ⟨fun vs H Q E q => h.1 vs H Q E (hs' _ _ _ _ q), fun A outer s H args us vs Q E a b c d e => h.2 A outer s H args us vs Q E a b c d (hs' _ _ _ _ e)⟩
end
end Kf
namespace Kf
open PySem PySem.Spec L2
open PyProof.Rows hiding St
theorem gSeq_step {g u : GS} {R : DEnds} {ρ : DEnv} {O : Ow} (h : g { R with nx := u R } ρ O) : gSeq g u R ρ O := h
theorem sub_at {O O' : Ow} {p : Addr} {c : Cell} (h : Sub (updO O p c) O') : O' p = some c := h p c updO_same
theorem sub_set {O O' : Ow} {p : Addr} {c c' : Cell} (h : Sub (updO O p c) O') : Sub (updO O p c') (updO O' p c') := fun a d e => by
  by_cases q : a = p
  · subst q; rw [updO_same] at e ⊢; exact e
  · rw [updO_ne q] at e ⊢; exact h a d (by rw [updO_ne q]; exact e)
theorem sub_del {O O' : Ow} {p : Addr} {c : Cell} (hp : O p = none) (h : Sub (updO O p c) O') : Sub O (delO O' p) := fun a d e => by
  have q : a ≠ p := fun q => by rw [q, hp] at e; cases e
  unfold delO
  rw [if_neg q]
  exact h a d (by rw [updO_ne q]; exact e)
theorem sub_under {O O' : Ow} {p : Addr} {c : Cell} (hp : O p = none) (h : Sub (updO O p c) O') : Sub O O' := (sub_upd hp).trans h
theorem sub_free {O O' : Ow} {p : Addr} (h : Sub O O') (hp : O' p = none) : O p = none := by
  cases e : O p with
  | none => rfl
  | some c => rw [h p c e] at hp; cases hp
theorem rIx_any {xs : List D} {i : Int} {O : Ow} {Q : VD} (h0 : 0 ≤ i) (h1 : i < xs.length) (h : ∀ v ∈ xs, Q v O) : rIxD (.lst xs) (.int i) O Q := by
  obtain ⟨v, e1, e2⟩ := atI_some h0 h1
  rw [rIx_l e1]
  exact h v e2
end Kf
/-! Kpg: programs as data. -/
namespace Kf
open PySem PySem.Spec L2
open PyProof.Rows hiding St
/-! ### words -/
section
variable {neg : Bool} {O : Ow} {Q : VD}
theorem rIn_ws {z : Str} {ts : List Str} (hz : PyData.strOk z = true) (h : ∀ t ∈ ts, PyData.strOk t = true) : rInD neg (.str z) (.tup (ts.map .str)) O Q = Q (.bl (neg ^^ decide (z ∈ ts))) O := by
  have h1 : isPys (ts.map D.str) = true := by
    rw [isPys_all, List.all_eq_true]
    intro d hd
    obtain ⟨t, ht, rfl⟩ := List.mem_map.mp hd
    simp only [isPy, h t ht]
  have h2 : (ts.map D.str).any (fun x => PyData.eqv (toPy x) (toPy (.str z))) = decide (z ∈ ts) := by
    clear h h1
    induction ts with
    | nil => simp
    | cons t ts ih =>
      have e : PyData.eqv (toPy (.str t)) (toPy (.str z)) = decide (t = z) := deq_s
      rw [List.map_cons, List.any_cons, ih, e]
      by_cases h : t = z
      · subst h; simp
      · have h' : ¬ z = t := fun q => h q.symm
        simp [h, h']
  simp only [rInD, deref_str, deref_tup, isPy, hz, h1, h2, true_and]
  first | rfl | simp [dp, toPy, PyData.depth]
theorem sw_name : PyData.strOk (Str.ofString "name") = true := by decide +kernel
theorem sw_thing : PyData.strOk (Str.ofString "thing") = true := by decide +kernel
theorem sw_take : PyData.strOk (Str.ofString "take") = true := by decide +kernel
theorem sw_give : PyData.strOk (Str.ofString "give") = true := by decide +kernel
theorem sw_pair : PyData.strOk (Str.ofString "pair") = true := by decide +kernel
theorem sw_first : PyData.strOk (Str.ofString "first") = true := by decide +kernel
theorem sw_second : PyData.strOk (Str.ofString "second") = true := by decide +kernel
theorem sw_mark : PyData.strOk (Str.ofString "mark") = true := by decide +kernel
theorem sw_one : PyData.strOk (Str.ofString "one") = true := by decide +kernel
theorem sw_to : PyData.strOk (Str.ofString "to") = true := by decide +kernel
theorem sw_both : PyData.strOk (Str.ofString "both") = true := by decide +kernel
theorem sw_at : PyData.strOk (Str.ofString "at") = true := by decide +kernel
theorem te_name_take : rEqD neg (.str (Str.ofString "name")) (.str (Str.ofString "take")) O Q = Q (.bl neg) O := by
  rw [rEq_s sw_name sw_take, show decide (Str.ofString "name" = Str.ofString "take") = false by decide +kernel]; cases neg <;> rfl
theorem te_name_give : rEqD neg (.str (Str.ofString "name")) (.str (Str.ofString "give")) O Q = Q (.bl neg) O := by
  rw [rEq_s sw_name sw_give, show decide (Str.ofString "name" = Str.ofString "give") = false by decide +kernel]; cases neg <;> rfl
theorem te_name_pair : rEqD neg (.str (Str.ofString "name")) (.str (Str.ofString "pair")) O Q = Q (.bl neg) O := by
  rw [rEq_s sw_name sw_pair, show decide (Str.ofString "name" = Str.ofString "pair") = false by decide +kernel]; cases neg <;> rfl
theorem te_name_first : rEqD neg (.str (Str.ofString "name")) (.str (Str.ofString "first")) O Q = Q (.bl neg) O := by
  rw [rEq_s sw_name sw_first, show decide (Str.ofString "name" = Str.ofString "first") = false by decide +kernel]; cases neg <;> rfl
theorem te_name_second : rEqD neg (.str (Str.ofString "name")) (.str (Str.ofString "second")) O Q = Q (.bl neg) O := by
  rw [rEq_s sw_name sw_second, show decide (Str.ofString "name" = Str.ofString "second") = false by decide +kernel]; cases neg <;> rfl
theorem te_name_to : rEqD neg (.str (Str.ofString "name")) (.str (Str.ofString "to")) O Q = Q (.bl neg) O := by
  rw [rEq_s sw_name sw_to, show decide (Str.ofString "name" = Str.ofString "to") = false by decide +kernel]; cases neg <;> rfl
theorem te_name_both : rEqD neg (.str (Str.ofString "name")) (.str (Str.ofString "both")) O Q = Q (.bl neg) O := by
  rw [rEq_s sw_name sw_both, show decide (Str.ofString "name" = Str.ofString "both") = false by decide +kernel]; cases neg <;> rfl
theorem te_name_one : rEqD neg (.str (Str.ofString "name")) (.str (Str.ofString "one")) O Q = Q (.bl neg) O := by
  rw [rEq_s sw_name sw_one, show decide (Str.ofString "name" = Str.ofString "one") = false by decide +kernel]; cases neg <;> rfl
theorem te_name_mark : rEqD neg (.str (Str.ofString "name")) (.str (Str.ofString "mark")) O Q = Q (.bl neg) O := by
  rw [rEq_s sw_name sw_mark, show decide (Str.ofString "name" = Str.ofString "mark") = false by decide +kernel]; cases neg <;> rfl
theorem te_name_name : rEqD neg (.str (Str.ofString "name")) (.str (Str.ofString "name")) O Q = Q (.bl !neg) O := by
  rw [rEq_s sw_name sw_name, show decide (Str.ofString "name" = Str.ofString "name") = true by decide +kernel]; cases neg <;> rfl
theorem te_name_thing : rEqD neg (.str (Str.ofString "name")) (.str (Str.ofString "thing")) O Q = Q (.bl neg) O := by
  rw [rEq_s sw_name sw_thing, show decide (Str.ofString "name" = Str.ofString "thing") = false by decide +kernel]; cases neg <;> rfl
theorem te_name_at : rEqD neg (.str (Str.ofString "name")) (.str (Str.ofString "at")) O Q = Q (.bl neg) O := by
  rw [rEq_s sw_name sw_at, show decide (Str.ofString "name" = Str.ofString "at") = false by decide +kernel]; cases neg <;> rfl
theorem te_thing_take : rEqD neg (.str (Str.ofString "thing")) (.str (Str.ofString "take")) O Q = Q (.bl neg) O := by
  rw [rEq_s sw_thing sw_take, show decide (Str.ofString "thing" = Str.ofString "take") = false by decide +kernel]; cases neg <;> rfl
theorem te_thing_give : rEqD neg (.str (Str.ofString "thing")) (.str (Str.ofString "give")) O Q = Q (.bl neg) O := by
  rw [rEq_s sw_thing sw_give, show decide (Str.ofString "thing" = Str.ofString "give") = false by decide +kernel]; cases neg <;> rfl
theorem te_thing_pair : rEqD neg (.str (Str.ofString "thing")) (.str (Str.ofString "pair")) O Q = Q (.bl neg) O := by
  rw [rEq_s sw_thing sw_pair, show decide (Str.ofString "thing" = Str.ofString "pair") = false by decide +kernel]; cases neg <;> rfl
theorem te_thing_first : rEqD neg (.str (Str.ofString "thing")) (.str (Str.ofString "first")) O Q = Q (.bl neg) O := by
  rw [rEq_s sw_thing sw_first, show decide (Str.ofString "thing" = Str.ofString "first") = false by decide +kernel]; cases neg <;> rfl
theorem te_thing_second : rEqD neg (.str (Str.ofString "thing")) (.str (Str.ofString "second")) O Q = Q (.bl neg) O := by
  rw [rEq_s sw_thing sw_second, show decide (Str.ofString "thing" = Str.ofString "second") = false by decide +kernel]; cases neg <;> rfl
theorem te_thing_to : rEqD neg (.str (Str.ofString "thing")) (.str (Str.ofString "to")) O Q = Q (.bl neg) O := by
  rw [rEq_s sw_thing sw_to, show decide (Str.ofString "thing" = Str.ofString "to") = false by decide +kernel]; cases neg <;> rfl
theorem te_thing_both : rEqD neg (.str (Str.ofString "thing")) (.str (Str.ofString "both")) O Q = Q (.bl neg) O := by
  rw [rEq_s sw_thing sw_both, show decide (Str.ofString "thing" = Str.ofString "both") = false by decide +kernel]; cases neg <;> rfl
theorem te_thing_one : rEqD neg (.str (Str.ofString "thing")) (.str (Str.ofString "one")) O Q = Q (.bl neg) O := by
  rw [rEq_s sw_thing sw_one, show decide (Str.ofString "thing" = Str.ofString "one") = false by decide +kernel]; cases neg <;> rfl
theorem te_thing_mark : rEqD neg (.str (Str.ofString "thing")) (.str (Str.ofString "mark")) O Q = Q (.bl neg) O := by
  rw [rEq_s sw_thing sw_mark, show decide (Str.ofString "thing" = Str.ofString "mark") = false by decide +kernel]; cases neg <;> rfl
theorem te_thing_name : rEqD neg (.str (Str.ofString "thing")) (.str (Str.ofString "name")) O Q = Q (.bl neg) O := by
  rw [rEq_s sw_thing sw_name, show decide (Str.ofString "thing" = Str.ofString "name") = false by decide +kernel]; cases neg <;> rfl
theorem te_thing_thing : rEqD neg (.str (Str.ofString "thing")) (.str (Str.ofString "thing")) O Q = Q (.bl !neg) O := by
  rw [rEq_s sw_thing sw_thing, show decide (Str.ofString "thing" = Str.ofString "thing") = true by decide +kernel]; cases neg <;> rfl
theorem te_thing_at : rEqD neg (.str (Str.ofString "thing")) (.str (Str.ofString "at")) O Q = Q (.bl neg) O := by
  rw [rEq_s sw_thing sw_at, show decide (Str.ofString "thing" = Str.ofString "at") = false by decide +kernel]; cases neg <;> rfl
theorem te_take_take : rEqD neg (.str (Str.ofString "take")) (.str (Str.ofString "take")) O Q = Q (.bl !neg) O := by
  rw [rEq_s sw_take sw_take, show decide (Str.ofString "take" = Str.ofString "take") = true by decide +kernel]; cases neg <;> rfl
theorem te_take_give : rEqD neg (.str (Str.ofString "take")) (.str (Str.ofString "give")) O Q = Q (.bl neg) O := by
  rw [rEq_s sw_take sw_give, show decide (Str.ofString "take" = Str.ofString "give") = false by decide +kernel]; cases neg <;> rfl
theorem te_take_pair : rEqD neg (.str (Str.ofString "take")) (.str (Str.ofString "pair")) O Q = Q (.bl neg) O := by
  rw [rEq_s sw_take sw_pair, show decide (Str.ofString "take" = Str.ofString "pair") = false by decide +kernel]; cases neg <;> rfl
theorem te_take_first : rEqD neg (.str (Str.ofString "take")) (.str (Str.ofString "first")) O Q = Q (.bl neg) O := by
  rw [rEq_s sw_take sw_first, show decide (Str.ofString "take" = Str.ofString "first") = false by decide +kernel]; cases neg <;> rfl
theorem te_take_second : rEqD neg (.str (Str.ofString "take")) (.str (Str.ofString "second")) O Q = Q (.bl neg) O := by
  rw [rEq_s sw_take sw_second, show decide (Str.ofString "take" = Str.ofString "second") = false by decide +kernel]; cases neg <;> rfl
theorem te_take_to : rEqD neg (.str (Str.ofString "take")) (.str (Str.ofString "to")) O Q = Q (.bl neg) O := by
  rw [rEq_s sw_take sw_to, show decide (Str.ofString "take" = Str.ofString "to") = false by decide +kernel]; cases neg <;> rfl
theorem te_take_both : rEqD neg (.str (Str.ofString "take")) (.str (Str.ofString "both")) O Q = Q (.bl neg) O := by
  rw [rEq_s sw_take sw_both, show decide (Str.ofString "take" = Str.ofString "both") = false by decide +kernel]; cases neg <;> rfl
theorem te_take_one : rEqD neg (.str (Str.ofString "take")) (.str (Str.ofString "one")) O Q = Q (.bl neg) O := by
  rw [rEq_s sw_take sw_one, show decide (Str.ofString "take" = Str.ofString "one") = false by decide +kernel]; cases neg <;> rfl
theorem te_take_mark : rEqD neg (.str (Str.ofString "take")) (.str (Str.ofString "mark")) O Q = Q (.bl neg) O := by
  rw [rEq_s sw_take sw_mark, show decide (Str.ofString "take" = Str.ofString "mark") = false by decide +kernel]; cases neg <;> rfl
theorem te_take_name : rEqD neg (.str (Str.ofString "take")) (.str (Str.ofString "name")) O Q = Q (.bl neg) O := by
  rw [rEq_s sw_take sw_name, show decide (Str.ofString "take" = Str.ofString "name") = false by decide +kernel]; cases neg <;> rfl
theorem te_take_thing : rEqD neg (.str (Str.ofString "take")) (.str (Str.ofString "thing")) O Q = Q (.bl neg) O := by
  rw [rEq_s sw_take sw_thing, show decide (Str.ofString "take" = Str.ofString "thing") = false by decide +kernel]; cases neg <;> rfl
theorem te_take_at : rEqD neg (.str (Str.ofString "take")) (.str (Str.ofString "at")) O Q = Q (.bl neg) O := by
  rw [rEq_s sw_take sw_at, show decide (Str.ofString "take" = Str.ofString "at") = false by decide +kernel]; cases neg <;> rfl
theorem te_give_take : rEqD neg (.str (Str.ofString "give")) (.str (Str.ofString "take")) O Q = Q (.bl neg) O := by
  rw [rEq_s sw_give sw_take, show decide (Str.ofString "give" = Str.ofString "take") = false by decide +kernel]; cases neg <;> rfl
theorem te_give_give : rEqD neg (.str (Str.ofString "give")) (.str (Str.ofString "give")) O Q = Q (.bl !neg) O := by
  rw [rEq_s sw_give sw_give, show decide (Str.ofString "give" = Str.ofString "give") = true by decide +kernel]; cases neg <;> rfl
theorem te_give_pair : rEqD neg (.str (Str.ofString "give")) (.str (Str.ofString "pair")) O Q = Q (.bl neg) O := by
  rw [rEq_s sw_give sw_pair, show decide (Str.ofString "give" = Str.ofString "pair") = false by decide +kernel]; cases neg <;> rfl
theorem te_give_first : rEqD neg (.str (Str.ofString "give")) (.str (Str.ofString "first")) O Q = Q (.bl neg) O := by
  rw [rEq_s sw_give sw_first, show decide (Str.ofString "give" = Str.ofString "first") = false by decide +kernel]; cases neg <;> rfl
theorem te_give_second : rEqD neg (.str (Str.ofString "give")) (.str (Str.ofString "second")) O Q = Q (.bl neg) O := by
  rw [rEq_s sw_give sw_second, show decide (Str.ofString "give" = Str.ofString "second") = false by decide +kernel]; cases neg <;> rfl
theorem te_give_to : rEqD neg (.str (Str.ofString "give")) (.str (Str.ofString "to")) O Q = Q (.bl neg) O := by
  rw [rEq_s sw_give sw_to, show decide (Str.ofString "give" = Str.ofString "to") = false by decide +kernel]; cases neg <;> rfl
theorem te_give_both : rEqD neg (.str (Str.ofString "give")) (.str (Str.ofString "both")) O Q = Q (.bl neg) O := by
  rw [rEq_s sw_give sw_both, show decide (Str.ofString "give" = Str.ofString "both") = false by decide +kernel]; cases neg <;> rfl
theorem te_give_one : rEqD neg (.str (Str.ofString "give")) (.str (Str.ofString "one")) O Q = Q (.bl neg) O := by
  rw [rEq_s sw_give sw_one, show decide (Str.ofString "give" = Str.ofString "one") = false by decide +kernel]; cases neg <;> rfl
theorem te_give_mark : rEqD neg (.str (Str.ofString "give")) (.str (Str.ofString "mark")) O Q = Q (.bl neg) O := by
  rw [rEq_s sw_give sw_mark, show decide (Str.ofString "give" = Str.ofString "mark") = false by decide +kernel]; cases neg <;> rfl
theorem te_give_name : rEqD neg (.str (Str.ofString "give")) (.str (Str.ofString "name")) O Q = Q (.bl neg) O := by
  rw [rEq_s sw_give sw_name, show decide (Str.ofString "give" = Str.ofString "name") = false by decide +kernel]; cases neg <;> rfl
theorem te_give_thing : rEqD neg (.str (Str.ofString "give")) (.str (Str.ofString "thing")) O Q = Q (.bl neg) O := by
  rw [rEq_s sw_give sw_thing, show decide (Str.ofString "give" = Str.ofString "thing") = false by decide +kernel]; cases neg <;> rfl
theorem te_give_at : rEqD neg (.str (Str.ofString "give")) (.str (Str.ofString "at")) O Q = Q (.bl neg) O := by
  rw [rEq_s sw_give sw_at, show decide (Str.ofString "give" = Str.ofString "at") = false by decide +kernel]; cases neg <;> rfl
theorem te_pair_take : rEqD neg (.str (Str.ofString "pair")) (.str (Str.ofString "take")) O Q = Q (.bl neg) O := by
  rw [rEq_s sw_pair sw_take, show decide (Str.ofString "pair" = Str.ofString "take") = false by decide +kernel]; cases neg <;> rfl
theorem te_pair_give : rEqD neg (.str (Str.ofString "pair")) (.str (Str.ofString "give")) O Q = Q (.bl neg) O := by
  rw [rEq_s sw_pair sw_give, show decide (Str.ofString "pair" = Str.ofString "give") = false by decide +kernel]; cases neg <;> rfl
theorem te_pair_pair : rEqD neg (.str (Str.ofString "pair")) (.str (Str.ofString "pair")) O Q = Q (.bl !neg) O := by
  rw [rEq_s sw_pair sw_pair, show decide (Str.ofString "pair" = Str.ofString "pair") = true by decide +kernel]; cases neg <;> rfl
theorem te_pair_first : rEqD neg (.str (Str.ofString "pair")) (.str (Str.ofString "first")) O Q = Q (.bl neg) O := by
  rw [rEq_s sw_pair sw_first, show decide (Str.ofString "pair" = Str.ofString "first") = false by decide +kernel]; cases neg <;> rfl
theorem te_pair_second : rEqD neg (.str (Str.ofString "pair")) (.str (Str.ofString "second")) O Q = Q (.bl neg) O := by
  rw [rEq_s sw_pair sw_second, show decide (Str.ofString "pair" = Str.ofString "second") = false by decide +kernel]; cases neg <;> rfl
theorem te_pair_to : rEqD neg (.str (Str.ofString "pair")) (.str (Str.ofString "to")) O Q = Q (.bl neg) O := by
  rw [rEq_s sw_pair sw_to, show decide (Str.ofString "pair" = Str.ofString "to") = false by decide +kernel]; cases neg <;> rfl
theorem te_pair_both : rEqD neg (.str (Str.ofString "pair")) (.str (Str.ofString "both")) O Q = Q (.bl neg) O := by
  rw [rEq_s sw_pair sw_both, show decide (Str.ofString "pair" = Str.ofString "both") = false by decide +kernel]; cases neg <;> rfl
theorem te_pair_one : rEqD neg (.str (Str.ofString "pair")) (.str (Str.ofString "one")) O Q = Q (.bl neg) O := by
  rw [rEq_s sw_pair sw_one, show decide (Str.ofString "pair" = Str.ofString "one") = false by decide +kernel]; cases neg <;> rfl
theorem te_pair_mark : rEqD neg (.str (Str.ofString "pair")) (.str (Str.ofString "mark")) O Q = Q (.bl neg) O := by
  rw [rEq_s sw_pair sw_mark, show decide (Str.ofString "pair" = Str.ofString "mark") = false by decide +kernel]; cases neg <;> rfl
theorem te_pair_name : rEqD neg (.str (Str.ofString "pair")) (.str (Str.ofString "name")) O Q = Q (.bl neg) O := by
  rw [rEq_s sw_pair sw_name, show decide (Str.ofString "pair" = Str.ofString "name") = false by decide +kernel]; cases neg <;> rfl
theorem te_pair_thing : rEqD neg (.str (Str.ofString "pair")) (.str (Str.ofString "thing")) O Q = Q (.bl neg) O := by
  rw [rEq_s sw_pair sw_thing, show decide (Str.ofString "pair" = Str.ofString "thing") = false by decide +kernel]; cases neg <;> rfl
theorem te_pair_at : rEqD neg (.str (Str.ofString "pair")) (.str (Str.ofString "at")) O Q = Q (.bl neg) O := by
  rw [rEq_s sw_pair sw_at, show decide (Str.ofString "pair" = Str.ofString "at") = false by decide +kernel]; cases neg <;> rfl
theorem te_first_take : rEqD neg (.str (Str.ofString "first")) (.str (Str.ofString "take")) O Q = Q (.bl neg) O := by
  rw [rEq_s sw_first sw_take, show decide (Str.ofString "first" = Str.ofString "take") = false by decide +kernel]; cases neg <;> rfl
theorem te_first_give : rEqD neg (.str (Str.ofString "first")) (.str (Str.ofString "give")) O Q = Q (.bl neg) O := by
  rw [rEq_s sw_first sw_give, show decide (Str.ofString "first" = Str.ofString "give") = false by decide +kernel]; cases neg <;> rfl
theorem te_first_pair : rEqD neg (.str (Str.ofString "first")) (.str (Str.ofString "pair")) O Q = Q (.bl neg) O := by
  rw [rEq_s sw_first sw_pair, show decide (Str.ofString "first" = Str.ofString "pair") = false by decide +kernel]; cases neg <;> rfl
theorem te_first_first : rEqD neg (.str (Str.ofString "first")) (.str (Str.ofString "first")) O Q = Q (.bl !neg) O := by
  rw [rEq_s sw_first sw_first, show decide (Str.ofString "first" = Str.ofString "first") = true by decide +kernel]; cases neg <;> rfl
theorem te_first_second : rEqD neg (.str (Str.ofString "first")) (.str (Str.ofString "second")) O Q = Q (.bl neg) O := by
  rw [rEq_s sw_first sw_second, show decide (Str.ofString "first" = Str.ofString "second") = false by decide +kernel]; cases neg <;> rfl
theorem te_first_to : rEqD neg (.str (Str.ofString "first")) (.str (Str.ofString "to")) O Q = Q (.bl neg) O := by
  rw [rEq_s sw_first sw_to, show decide (Str.ofString "first" = Str.ofString "to") = false by decide +kernel]; cases neg <;> rfl
theorem te_first_both : rEqD neg (.str (Str.ofString "first")) (.str (Str.ofString "both")) O Q = Q (.bl neg) O := by
  rw [rEq_s sw_first sw_both, show decide (Str.ofString "first" = Str.ofString "both") = false by decide +kernel]; cases neg <;> rfl
theorem te_first_one : rEqD neg (.str (Str.ofString "first")) (.str (Str.ofString "one")) O Q = Q (.bl neg) O := by
  rw [rEq_s sw_first sw_one, show decide (Str.ofString "first" = Str.ofString "one") = false by decide +kernel]; cases neg <;> rfl
theorem te_first_mark : rEqD neg (.str (Str.ofString "first")) (.str (Str.ofString "mark")) O Q = Q (.bl neg) O := by
  rw [rEq_s sw_first sw_mark, show decide (Str.ofString "first" = Str.ofString "mark") = false by decide +kernel]; cases neg <;> rfl
theorem te_first_name : rEqD neg (.str (Str.ofString "first")) (.str (Str.ofString "name")) O Q = Q (.bl neg) O := by
  rw [rEq_s sw_first sw_name, show decide (Str.ofString "first" = Str.ofString "name") = false by decide +kernel]; cases neg <;> rfl
theorem te_first_thing : rEqD neg (.str (Str.ofString "first")) (.str (Str.ofString "thing")) O Q = Q (.bl neg) O := by
  rw [rEq_s sw_first sw_thing, show decide (Str.ofString "first" = Str.ofString "thing") = false by decide +kernel]; cases neg <;> rfl
theorem te_first_at : rEqD neg (.str (Str.ofString "first")) (.str (Str.ofString "at")) O Q = Q (.bl neg) O := by
  rw [rEq_s sw_first sw_at, show decide (Str.ofString "first" = Str.ofString "at") = false by decide +kernel]; cases neg <;> rfl
theorem te_second_take : rEqD neg (.str (Str.ofString "second")) (.str (Str.ofString "take")) O Q = Q (.bl neg) O := by
  rw [rEq_s sw_second sw_take, show decide (Str.ofString "second" = Str.ofString "take") = false by decide +kernel]; cases neg <;> rfl
theorem te_second_give : rEqD neg (.str (Str.ofString "second")) (.str (Str.ofString "give")) O Q = Q (.bl neg) O := by
  rw [rEq_s sw_second sw_give, show decide (Str.ofString "second" = Str.ofString "give") = false by decide +kernel]; cases neg <;> rfl
theorem te_second_pair : rEqD neg (.str (Str.ofString "second")) (.str (Str.ofString "pair")) O Q = Q (.bl neg) O := by
  rw [rEq_s sw_second sw_pair, show decide (Str.ofString "second" = Str.ofString "pair") = false by decide +kernel]; cases neg <;> rfl
theorem te_second_first : rEqD neg (.str (Str.ofString "second")) (.str (Str.ofString "first")) O Q = Q (.bl neg) O := by
  rw [rEq_s sw_second sw_first, show decide (Str.ofString "second" = Str.ofString "first") = false by decide +kernel]; cases neg <;> rfl
theorem te_second_second : rEqD neg (.str (Str.ofString "second")) (.str (Str.ofString "second")) O Q = Q (.bl !neg) O := by
  rw [rEq_s sw_second sw_second, show decide (Str.ofString "second" = Str.ofString "second") = true by decide +kernel]; cases neg <;> rfl
theorem te_second_to : rEqD neg (.str (Str.ofString "second")) (.str (Str.ofString "to")) O Q = Q (.bl neg) O := by
  rw [rEq_s sw_second sw_to, show decide (Str.ofString "second" = Str.ofString "to") = false by decide +kernel]; cases neg <;> rfl
theorem te_second_both : rEqD neg (.str (Str.ofString "second")) (.str (Str.ofString "both")) O Q = Q (.bl neg) O := by
  rw [rEq_s sw_second sw_both, show decide (Str.ofString "second" = Str.ofString "both") = false by decide +kernel]; cases neg <;> rfl
theorem te_second_one : rEqD neg (.str (Str.ofString "second")) (.str (Str.ofString "one")) O Q = Q (.bl neg) O := by
  rw [rEq_s sw_second sw_one, show decide (Str.ofString "second" = Str.ofString "one") = false by decide +kernel]; cases neg <;> rfl
theorem te_second_mark : rEqD neg (.str (Str.ofString "second")) (.str (Str.ofString "mark")) O Q = Q (.bl neg) O := by
  rw [rEq_s sw_second sw_mark, show decide (Str.ofString "second" = Str.ofString "mark") = false by decide +kernel]; cases neg <;> rfl
theorem te_second_name : rEqD neg (.str (Str.ofString "second")) (.str (Str.ofString "name")) O Q = Q (.bl neg) O := by
  rw [rEq_s sw_second sw_name, show decide (Str.ofString "second" = Str.ofString "name") = false by decide +kernel]; cases neg <;> rfl
theorem te_second_thing : rEqD neg (.str (Str.ofString "second")) (.str (Str.ofString "thing")) O Q = Q (.bl neg) O := by
  rw [rEq_s sw_second sw_thing, show decide (Str.ofString "second" = Str.ofString "thing") = false by decide +kernel]; cases neg <;> rfl
theorem te_second_at : rEqD neg (.str (Str.ofString "second")) (.str (Str.ofString "at")) O Q = Q (.bl neg) O := by
  rw [rEq_s sw_second sw_at, show decide (Str.ofString "second" = Str.ofString "at") = false by decide +kernel]; cases neg <;> rfl
theorem te_mark_take : rEqD neg (.str (Str.ofString "mark")) (.str (Str.ofString "take")) O Q = Q (.bl neg) O := by
  rw [rEq_s sw_mark sw_take, show decide (Str.ofString "mark" = Str.ofString "take") = false by decide +kernel]; cases neg <;> rfl
theorem te_mark_give : rEqD neg (.str (Str.ofString "mark")) (.str (Str.ofString "give")) O Q = Q (.bl neg) O := by
  rw [rEq_s sw_mark sw_give, show decide (Str.ofString "mark" = Str.ofString "give") = false by decide +kernel]; cases neg <;> rfl
theorem te_mark_pair : rEqD neg (.str (Str.ofString "mark")) (.str (Str.ofString "pair")) O Q = Q (.bl neg) O := by
  rw [rEq_s sw_mark sw_pair, show decide (Str.ofString "mark" = Str.ofString "pair") = false by decide +kernel]; cases neg <;> rfl
theorem te_mark_first : rEqD neg (.str (Str.ofString "mark")) (.str (Str.ofString "first")) O Q = Q (.bl neg) O := by
  rw [rEq_s sw_mark sw_first, show decide (Str.ofString "mark" = Str.ofString "first") = false by decide +kernel]; cases neg <;> rfl
theorem te_mark_second : rEqD neg (.str (Str.ofString "mark")) (.str (Str.ofString "second")) O Q = Q (.bl neg) O := by
  rw [rEq_s sw_mark sw_second, show decide (Str.ofString "mark" = Str.ofString "second") = false by decide +kernel]; cases neg <;> rfl
theorem te_mark_to : rEqD neg (.str (Str.ofString "mark")) (.str (Str.ofString "to")) O Q = Q (.bl neg) O := by
  rw [rEq_s sw_mark sw_to, show decide (Str.ofString "mark" = Str.ofString "to") = false by decide +kernel]; cases neg <;> rfl
theorem te_mark_both : rEqD neg (.str (Str.ofString "mark")) (.str (Str.ofString "both")) O Q = Q (.bl neg) O := by
  rw [rEq_s sw_mark sw_both, show decide (Str.ofString "mark" = Str.ofString "both") = false by decide +kernel]; cases neg <;> rfl
theorem te_mark_one : rEqD neg (.str (Str.ofString "mark")) (.str (Str.ofString "one")) O Q = Q (.bl neg) O := by
  rw [rEq_s sw_mark sw_one, show decide (Str.ofString "mark" = Str.ofString "one") = false by decide +kernel]; cases neg <;> rfl
theorem te_mark_mark : rEqD neg (.str (Str.ofString "mark")) (.str (Str.ofString "mark")) O Q = Q (.bl !neg) O := by
  rw [rEq_s sw_mark sw_mark, show decide (Str.ofString "mark" = Str.ofString "mark") = true by decide +kernel]; cases neg <;> rfl
theorem te_mark_name : rEqD neg (.str (Str.ofString "mark")) (.str (Str.ofString "name")) O Q = Q (.bl neg) O := by
  rw [rEq_s sw_mark sw_name, show decide (Str.ofString "mark" = Str.ofString "name") = false by decide +kernel]; cases neg <;> rfl
theorem te_mark_thing : rEqD neg (.str (Str.ofString "mark")) (.str (Str.ofString "thing")) O Q = Q (.bl neg) O := by
  rw [rEq_s sw_mark sw_thing, show decide (Str.ofString "mark" = Str.ofString "thing") = false by decide +kernel]; cases neg <;> rfl
theorem te_mark_at : rEqD neg (.str (Str.ofString "mark")) (.str (Str.ofString "at")) O Q = Q (.bl neg) O := by
  rw [rEq_s sw_mark sw_at, show decide (Str.ofString "mark" = Str.ofString "at") = false by decide +kernel]; cases neg <;> rfl
theorem te_one_take : rEqD neg (.str (Str.ofString "one")) (.str (Str.ofString "take")) O Q = Q (.bl neg) O := by
  rw [rEq_s sw_one sw_take, show decide (Str.ofString "one" = Str.ofString "take") = false by decide +kernel]; cases neg <;> rfl
theorem te_one_give : rEqD neg (.str (Str.ofString "one")) (.str (Str.ofString "give")) O Q = Q (.bl neg) O := by
  rw [rEq_s sw_one sw_give, show decide (Str.ofString "one" = Str.ofString "give") = false by decide +kernel]; cases neg <;> rfl
theorem te_one_pair : rEqD neg (.str (Str.ofString "one")) (.str (Str.ofString "pair")) O Q = Q (.bl neg) O := by
  rw [rEq_s sw_one sw_pair, show decide (Str.ofString "one" = Str.ofString "pair") = false by decide +kernel]; cases neg <;> rfl
theorem te_one_first : rEqD neg (.str (Str.ofString "one")) (.str (Str.ofString "first")) O Q = Q (.bl neg) O := by
  rw [rEq_s sw_one sw_first, show decide (Str.ofString "one" = Str.ofString "first") = false by decide +kernel]; cases neg <;> rfl
theorem te_one_second : rEqD neg (.str (Str.ofString "one")) (.str (Str.ofString "second")) O Q = Q (.bl neg) O := by
  rw [rEq_s sw_one sw_second, show decide (Str.ofString "one" = Str.ofString "second") = false by decide +kernel]; cases neg <;> rfl
theorem te_one_to : rEqD neg (.str (Str.ofString "one")) (.str (Str.ofString "to")) O Q = Q (.bl neg) O := by
  rw [rEq_s sw_one sw_to, show decide (Str.ofString "one" = Str.ofString "to") = false by decide +kernel]; cases neg <;> rfl
theorem te_one_both : rEqD neg (.str (Str.ofString "one")) (.str (Str.ofString "both")) O Q = Q (.bl neg) O := by
  rw [rEq_s sw_one sw_both, show decide (Str.ofString "one" = Str.ofString "both") = false by decide +kernel]; cases neg <;> rfl
theorem te_one_one : rEqD neg (.str (Str.ofString "one")) (.str (Str.ofString "one")) O Q = Q (.bl !neg) O := by
  rw [rEq_s sw_one sw_one, show decide (Str.ofString "one" = Str.ofString "one") = true by decide +kernel]; cases neg <;> rfl
theorem te_one_mark : rEqD neg (.str (Str.ofString "one")) (.str (Str.ofString "mark")) O Q = Q (.bl neg) O := by
  rw [rEq_s sw_one sw_mark, show decide (Str.ofString "one" = Str.ofString "mark") = false by decide +kernel]; cases neg <;> rfl
theorem te_one_name : rEqD neg (.str (Str.ofString "one")) (.str (Str.ofString "name")) O Q = Q (.bl neg) O := by
  rw [rEq_s sw_one sw_name, show decide (Str.ofString "one" = Str.ofString "name") = false by decide +kernel]; cases neg <;> rfl
theorem te_one_thing : rEqD neg (.str (Str.ofString "one")) (.str (Str.ofString "thing")) O Q = Q (.bl neg) O := by
  rw [rEq_s sw_one sw_thing, show decide (Str.ofString "one" = Str.ofString "thing") = false by decide +kernel]; cases neg <;> rfl
theorem te_one_at : rEqD neg (.str (Str.ofString "one")) (.str (Str.ofString "at")) O Q = Q (.bl neg) O := by
  rw [rEq_s sw_one sw_at, show decide (Str.ofString "one" = Str.ofString "at") = false by decide +kernel]; cases neg <;> rfl
theorem te_to_take : rEqD neg (.str (Str.ofString "to")) (.str (Str.ofString "take")) O Q = Q (.bl neg) O := by
  rw [rEq_s sw_to sw_take, show decide (Str.ofString "to" = Str.ofString "take") = false by decide +kernel]; cases neg <;> rfl
theorem te_to_give : rEqD neg (.str (Str.ofString "to")) (.str (Str.ofString "give")) O Q = Q (.bl neg) O := by
  rw [rEq_s sw_to sw_give, show decide (Str.ofString "to" = Str.ofString "give") = false by decide +kernel]; cases neg <;> rfl
theorem te_to_pair : rEqD neg (.str (Str.ofString "to")) (.str (Str.ofString "pair")) O Q = Q (.bl neg) O := by
  rw [rEq_s sw_to sw_pair, show decide (Str.ofString "to" = Str.ofString "pair") = false by decide +kernel]; cases neg <;> rfl
theorem te_to_first : rEqD neg (.str (Str.ofString "to")) (.str (Str.ofString "first")) O Q = Q (.bl neg) O := by
  rw [rEq_s sw_to sw_first, show decide (Str.ofString "to" = Str.ofString "first") = false by decide +kernel]; cases neg <;> rfl
theorem te_to_second : rEqD neg (.str (Str.ofString "to")) (.str (Str.ofString "second")) O Q = Q (.bl neg) O := by
  rw [rEq_s sw_to sw_second, show decide (Str.ofString "to" = Str.ofString "second") = false by decide +kernel]; cases neg <;> rfl
theorem te_to_to : rEqD neg (.str (Str.ofString "to")) (.str (Str.ofString "to")) O Q = Q (.bl !neg) O := by
  rw [rEq_s sw_to sw_to, show decide (Str.ofString "to" = Str.ofString "to") = true by decide +kernel]; cases neg <;> rfl
theorem te_to_both : rEqD neg (.str (Str.ofString "to")) (.str (Str.ofString "both")) O Q = Q (.bl neg) O := by
  rw [rEq_s sw_to sw_both, show decide (Str.ofString "to" = Str.ofString "both") = false by decide +kernel]; cases neg <;> rfl
theorem te_to_one : rEqD neg (.str (Str.ofString "to")) (.str (Str.ofString "one")) O Q = Q (.bl neg) O := by
  rw [rEq_s sw_to sw_one, show decide (Str.ofString "to" = Str.ofString "one") = false by decide +kernel]; cases neg <;> rfl
theorem te_to_mark : rEqD neg (.str (Str.ofString "to")) (.str (Str.ofString "mark")) O Q = Q (.bl neg) O := by
  rw [rEq_s sw_to sw_mark, show decide (Str.ofString "to" = Str.ofString "mark") = false by decide +kernel]; cases neg <;> rfl
theorem te_to_name : rEqD neg (.str (Str.ofString "to")) (.str (Str.ofString "name")) O Q = Q (.bl neg) O := by
  rw [rEq_s sw_to sw_name, show decide (Str.ofString "to" = Str.ofString "name") = false by decide +kernel]; cases neg <;> rfl
theorem te_to_thing : rEqD neg (.str (Str.ofString "to")) (.str (Str.ofString "thing")) O Q = Q (.bl neg) O := by
  rw [rEq_s sw_to sw_thing, show decide (Str.ofString "to" = Str.ofString "thing") = false by decide +kernel]; cases neg <;> rfl
theorem te_to_at : rEqD neg (.str (Str.ofString "to")) (.str (Str.ofString "at")) O Q = Q (.bl neg) O := by
  rw [rEq_s sw_to sw_at, show decide (Str.ofString "to" = Str.ofString "at") = false by decide +kernel]; cases neg <;> rfl
theorem te_both_take : rEqD neg (.str (Str.ofString "both")) (.str (Str.ofString "take")) O Q = Q (.bl neg) O := by
  rw [rEq_s sw_both sw_take, show decide (Str.ofString "both" = Str.ofString "take") = false by decide +kernel]; cases neg <;> rfl
theorem te_both_give : rEqD neg (.str (Str.ofString "both")) (.str (Str.ofString "give")) O Q = Q (.bl neg) O := by
  rw [rEq_s sw_both sw_give, show decide (Str.ofString "both" = Str.ofString "give") = false by decide +kernel]; cases neg <;> rfl
theorem te_both_pair : rEqD neg (.str (Str.ofString "both")) (.str (Str.ofString "pair")) O Q = Q (.bl neg) O := by
  rw [rEq_s sw_both sw_pair, show decide (Str.ofString "both" = Str.ofString "pair") = false by decide +kernel]; cases neg <;> rfl
theorem te_both_first : rEqD neg (.str (Str.ofString "both")) (.str (Str.ofString "first")) O Q = Q (.bl neg) O := by
  rw [rEq_s sw_both sw_first, show decide (Str.ofString "both" = Str.ofString "first") = false by decide +kernel]; cases neg <;> rfl
theorem te_both_second : rEqD neg (.str (Str.ofString "both")) (.str (Str.ofString "second")) O Q = Q (.bl neg) O := by
  rw [rEq_s sw_both sw_second, show decide (Str.ofString "both" = Str.ofString "second") = false by decide +kernel]; cases neg <;> rfl
theorem te_both_to : rEqD neg (.str (Str.ofString "both")) (.str (Str.ofString "to")) O Q = Q (.bl neg) O := by
  rw [rEq_s sw_both sw_to, show decide (Str.ofString "both" = Str.ofString "to") = false by decide +kernel]; cases neg <;> rfl
theorem te_both_both : rEqD neg (.str (Str.ofString "both")) (.str (Str.ofString "both")) O Q = Q (.bl !neg) O := by
  rw [rEq_s sw_both sw_both, show decide (Str.ofString "both" = Str.ofString "both") = true by decide +kernel]; cases neg <;> rfl
theorem te_both_one : rEqD neg (.str (Str.ofString "both")) (.str (Str.ofString "one")) O Q = Q (.bl neg) O := by
  rw [rEq_s sw_both sw_one, show decide (Str.ofString "both" = Str.ofString "one") = false by decide +kernel]; cases neg <;> rfl
theorem te_both_mark : rEqD neg (.str (Str.ofString "both")) (.str (Str.ofString "mark")) O Q = Q (.bl neg) O := by
  rw [rEq_s sw_both sw_mark, show decide (Str.ofString "both" = Str.ofString "mark") = false by decide +kernel]; cases neg <;> rfl
theorem te_both_name : rEqD neg (.str (Str.ofString "both")) (.str (Str.ofString "name")) O Q = Q (.bl neg) O := by
  rw [rEq_s sw_both sw_name, show decide (Str.ofString "both" = Str.ofString "name") = false by decide +kernel]; cases neg <;> rfl
theorem te_both_thing : rEqD neg (.str (Str.ofString "both")) (.str (Str.ofString "thing")) O Q = Q (.bl neg) O := by
  rw [rEq_s sw_both sw_thing, show decide (Str.ofString "both" = Str.ofString "thing") = false by decide +kernel]; cases neg <;> rfl
theorem te_both_at : rEqD neg (.str (Str.ofString "both")) (.str (Str.ofString "at")) O Q = Q (.bl neg) O := by
  rw [rEq_s sw_both sw_at, show decide (Str.ofString "both" = Str.ofString "at") = false by decide +kernel]; cases neg <;> rfl
theorem te_at_take : rEqD neg (.str (Str.ofString "at")) (.str (Str.ofString "take")) O Q = Q (.bl neg) O := by
  rw [rEq_s sw_at sw_take, show decide (Str.ofString "at" = Str.ofString "take") = false by decide +kernel]; cases neg <;> rfl
theorem te_at_give : rEqD neg (.str (Str.ofString "at")) (.str (Str.ofString "give")) O Q = Q (.bl neg) O := by
  rw [rEq_s sw_at sw_give, show decide (Str.ofString "at" = Str.ofString "give") = false by decide +kernel]; cases neg <;> rfl
theorem te_at_pair : rEqD neg (.str (Str.ofString "at")) (.str (Str.ofString "pair")) O Q = Q (.bl neg) O := by
  rw [rEq_s sw_at sw_pair, show decide (Str.ofString "at" = Str.ofString "pair") = false by decide +kernel]; cases neg <;> rfl
theorem te_at_first : rEqD neg (.str (Str.ofString "at")) (.str (Str.ofString "first")) O Q = Q (.bl neg) O := by
  rw [rEq_s sw_at sw_first, show decide (Str.ofString "at" = Str.ofString "first") = false by decide +kernel]; cases neg <;> rfl
theorem te_at_second : rEqD neg (.str (Str.ofString "at")) (.str (Str.ofString "second")) O Q = Q (.bl neg) O := by
  rw [rEq_s sw_at sw_second, show decide (Str.ofString "at" = Str.ofString "second") = false by decide +kernel]; cases neg <;> rfl
theorem te_at_to : rEqD neg (.str (Str.ofString "at")) (.str (Str.ofString "to")) O Q = Q (.bl neg) O := by
  rw [rEq_s sw_at sw_to, show decide (Str.ofString "at" = Str.ofString "to") = false by decide +kernel]; cases neg <;> rfl
theorem te_at_both : rEqD neg (.str (Str.ofString "at")) (.str (Str.ofString "both")) O Q = Q (.bl neg) O := by
  rw [rEq_s sw_at sw_both, show decide (Str.ofString "at" = Str.ofString "both") = false by decide +kernel]; cases neg <;> rfl
theorem te_at_one : rEqD neg (.str (Str.ofString "at")) (.str (Str.ofString "one")) O Q = Q (.bl neg) O := by
  rw [rEq_s sw_at sw_one, show decide (Str.ofString "at" = Str.ofString "one") = false by decide +kernel]; cases neg <;> rfl
theorem te_at_mark : rEqD neg (.str (Str.ofString "at")) (.str (Str.ofString "mark")) O Q = Q (.bl neg) O := by
  rw [rEq_s sw_at sw_mark, show decide (Str.ofString "at" = Str.ofString "mark") = false by decide +kernel]; cases neg <;> rfl
theorem te_at_name : rEqD neg (.str (Str.ofString "at")) (.str (Str.ofString "name")) O Q = Q (.bl neg) O := by
  rw [rEq_s sw_at sw_name, show decide (Str.ofString "at" = Str.ofString "name") = false by decide +kernel]; cases neg <;> rfl
theorem te_at_thing : rEqD neg (.str (Str.ofString "at")) (.str (Str.ofString "thing")) O Q = Q (.bl neg) O := by
  rw [rEq_s sw_at sw_thing, show decide (Str.ofString "at" = Str.ofString "thing") = false by decide +kernel]; cases neg <;> rfl
theorem te_at_at : rEqD neg (.str (Str.ofString "at")) (.str (Str.ofString "at")) O Q = Q (.bl !neg) O := by
  rw [rEq_s sw_at sw_at, show decide (Str.ofString "at" = Str.ofString "at") = true by decide +kernel]; cases neg <;> rfl
theorem ti4_name : rInD neg (.str (Str.ofString "name")) (.tup [.str (Str.ofString "give"), .str (Str.ofString "pair"), .str (Str.ofString "first"), .str (Str.ofString "second")]) O Q = Q (.bl neg) O := by
  have e := rIn_ws (neg := neg) (O := O) (Q := Q) (z := Str.ofString "name") (ts := [Str.ofString "give", Str.ofString "pair", Str.ofString "first", Str.ofString "second"]) (by decide +kernel) (by decide +kernel)
  rw [show decide (Str.ofString "name" ∈ ([Str.ofString "give", Str.ofString "pair", Str.ofString "first", Str.ofString "second"] : List Str)) = false by decide +kernel] at e
  exact e.trans (by cases neg <;> rfl)
theorem ti4_thing : rInD neg (.str (Str.ofString "thing")) (.tup [.str (Str.ofString "give"), .str (Str.ofString "pair"), .str (Str.ofString "first"), .str (Str.ofString "second")]) O Q = Q (.bl neg) O := by
  have e := rIn_ws (neg := neg) (O := O) (Q := Q) (z := Str.ofString "thing") (ts := [Str.ofString "give", Str.ofString "pair", Str.ofString "first", Str.ofString "second"]) (by decide +kernel) (by decide +kernel)
  rw [show decide (Str.ofString "thing" ∈ ([Str.ofString "give", Str.ofString "pair", Str.ofString "first", Str.ofString "second"] : List Str)) = false by decide +kernel] at e
  exact e.trans (by cases neg <;> rfl)
theorem ti4_take : rInD neg (.str (Str.ofString "take")) (.tup [.str (Str.ofString "give"), .str (Str.ofString "pair"), .str (Str.ofString "first"), .str (Str.ofString "second")]) O Q = Q (.bl neg) O := by
  have e := rIn_ws (neg := neg) (O := O) (Q := Q) (z := Str.ofString "take") (ts := [Str.ofString "give", Str.ofString "pair", Str.ofString "first", Str.ofString "second"]) (by decide +kernel) (by decide +kernel)
  rw [show decide (Str.ofString "take" ∈ ([Str.ofString "give", Str.ofString "pair", Str.ofString "first", Str.ofString "second"] : List Str)) = false by decide +kernel] at e
  exact e.trans (by cases neg <;> rfl)
theorem ti4_give : rInD neg (.str (Str.ofString "give")) (.tup [.str (Str.ofString "give"), .str (Str.ofString "pair"), .str (Str.ofString "first"), .str (Str.ofString "second")]) O Q = Q (.bl !neg) O := by
  have e := rIn_ws (neg := neg) (O := O) (Q := Q) (z := Str.ofString "give") (ts := [Str.ofString "give", Str.ofString "pair", Str.ofString "first", Str.ofString "second"]) (by decide +kernel) (by decide +kernel)
  rw [show decide (Str.ofString "give" ∈ ([Str.ofString "give", Str.ofString "pair", Str.ofString "first", Str.ofString "second"] : List Str)) = true by decide +kernel] at e
  exact e.trans (by cases neg <;> rfl)
theorem ti4_pair : rInD neg (.str (Str.ofString "pair")) (.tup [.str (Str.ofString "give"), .str (Str.ofString "pair"), .str (Str.ofString "first"), .str (Str.ofString "second")]) O Q = Q (.bl !neg) O := by
  have e := rIn_ws (neg := neg) (O := O) (Q := Q) (z := Str.ofString "pair") (ts := [Str.ofString "give", Str.ofString "pair", Str.ofString "first", Str.ofString "second"]) (by decide +kernel) (by decide +kernel)
  rw [show decide (Str.ofString "pair" ∈ ([Str.ofString "give", Str.ofString "pair", Str.ofString "first", Str.ofString "second"] : List Str)) = true by decide +kernel] at e
  exact e.trans (by cases neg <;> rfl)
theorem ti4_first : rInD neg (.str (Str.ofString "first")) (.tup [.str (Str.ofString "give"), .str (Str.ofString "pair"), .str (Str.ofString "first"), .str (Str.ofString "second")]) O Q = Q (.bl !neg) O := by
  have e := rIn_ws (neg := neg) (O := O) (Q := Q) (z := Str.ofString "first") (ts := [Str.ofString "give", Str.ofString "pair", Str.ofString "first", Str.ofString "second"]) (by decide +kernel) (by decide +kernel)
  rw [show decide (Str.ofString "first" ∈ ([Str.ofString "give", Str.ofString "pair", Str.ofString "first", Str.ofString "second"] : List Str)) = true by decide +kernel] at e
  exact e.trans (by cases neg <;> rfl)
theorem ti4_second : rInD neg (.str (Str.ofString "second")) (.tup [.str (Str.ofString "give"), .str (Str.ofString "pair"), .str (Str.ofString "first"), .str (Str.ofString "second")]) O Q = Q (.bl !neg) O := by
  have e := rIn_ws (neg := neg) (O := O) (Q := Q) (z := Str.ofString "second") (ts := [Str.ofString "give", Str.ofString "pair", Str.ofString "first", Str.ofString "second"]) (by decide +kernel) (by decide +kernel)
  rw [show decide (Str.ofString "second" ∈ ([Str.ofString "give", Str.ofString "pair", Str.ofString "first", Str.ofString "second"] : List Str)) = true by decide +kernel] at e
  exact e.trans (by cases neg <;> rfl)
theorem ti2_name : rInD neg (.str (Str.ofString "name")) (.tup [.str (Str.ofString "first"), .str (Str.ofString "second")]) O Q = Q (.bl neg) O := by
  have e := rIn_ws (neg := neg) (O := O) (Q := Q) (z := Str.ofString "name") (ts := [Str.ofString "first", Str.ofString "second"]) (by decide +kernel) (by decide +kernel)
  rw [show decide (Str.ofString "name" ∈ ([Str.ofString "first", Str.ofString "second"] : List Str)) = false by decide +kernel] at e
  exact e.trans (by cases neg <;> rfl)
theorem ti2_thing : rInD neg (.str (Str.ofString "thing")) (.tup [.str (Str.ofString "first"), .str (Str.ofString "second")]) O Q = Q (.bl neg) O := by
  have e := rIn_ws (neg := neg) (O := O) (Q := Q) (z := Str.ofString "thing") (ts := [Str.ofString "first", Str.ofString "second"]) (by decide +kernel) (by decide +kernel)
  rw [show decide (Str.ofString "thing" ∈ ([Str.ofString "first", Str.ofString "second"] : List Str)) = false by decide +kernel] at e
  exact e.trans (by cases neg <;> rfl)
theorem ti2_take : rInD neg (.str (Str.ofString "take")) (.tup [.str (Str.ofString "first"), .str (Str.ofString "second")]) O Q = Q (.bl neg) O := by
  have e := rIn_ws (neg := neg) (O := O) (Q := Q) (z := Str.ofString "take") (ts := [Str.ofString "first", Str.ofString "second"]) (by decide +kernel) (by decide +kernel)
  rw [show decide (Str.ofString "take" ∈ ([Str.ofString "first", Str.ofString "second"] : List Str)) = false by decide +kernel] at e
  exact e.trans (by cases neg <;> rfl)
theorem ti2_give : rInD neg (.str (Str.ofString "give")) (.tup [.str (Str.ofString "first"), .str (Str.ofString "second")]) O Q = Q (.bl neg) O := by
  have e := rIn_ws (neg := neg) (O := O) (Q := Q) (z := Str.ofString "give") (ts := [Str.ofString "first", Str.ofString "second"]) (by decide +kernel) (by decide +kernel)
  rw [show decide (Str.ofString "give" ∈ ([Str.ofString "first", Str.ofString "second"] : List Str)) = false by decide +kernel] at e
  exact e.trans (by cases neg <;> rfl)
theorem ti2_pair : rInD neg (.str (Str.ofString "pair")) (.tup [.str (Str.ofString "first"), .str (Str.ofString "second")]) O Q = Q (.bl neg) O := by
  have e := rIn_ws (neg := neg) (O := O) (Q := Q) (z := Str.ofString "pair") (ts := [Str.ofString "first", Str.ofString "second"]) (by decide +kernel) (by decide +kernel)
  rw [show decide (Str.ofString "pair" ∈ ([Str.ofString "first", Str.ofString "second"] : List Str)) = false by decide +kernel] at e
  exact e.trans (by cases neg <;> rfl)
theorem ti2_first : rInD neg (.str (Str.ofString "first")) (.tup [.str (Str.ofString "first"), .str (Str.ofString "second")]) O Q = Q (.bl !neg) O := by
  have e := rIn_ws (neg := neg) (O := O) (Q := Q) (z := Str.ofString "first") (ts := [Str.ofString "first", Str.ofString "second"]) (by decide +kernel) (by decide +kernel)
  rw [show decide (Str.ofString "first" ∈ ([Str.ofString "first", Str.ofString "second"] : List Str)) = true by decide +kernel] at e
  exact e.trans (by cases neg <;> rfl)
theorem ti2_second : rInD neg (.str (Str.ofString "second")) (.tup [.str (Str.ofString "first"), .str (Str.ofString "second")]) O Q = Q (.bl !neg) O := by
  have e := rIn_ws (neg := neg) (O := O) (Q := Q) (z := Str.ofString "second") (ts := [Str.ofString "first", Str.ofString "second"]) (by decide +kernel) (by decide +kernel)
  rw [show decide (Str.ofString "second" ∈ ([Str.ofString "first", Str.ofString "second"] : List Str)) = true by decide +kernel] at e
  exact e.trans (by cases neg <;> rfl)
end
/-! ### small sizes -/
theorem szT_0 : ((0 : Nat) ≤ sizeLine) = True := eq_true (sz_small (by decide))
theorem szT_1 : ((1 : Nat) ≤ sizeLine) = True := eq_true (sz_small (by decide))
theorem szT_2 : ((2 : Nat) ≤ sizeLine) = True := eq_true (sz_small (by decide))
theorem szT_3 : ((3 : Nat) ≤ sizeLine) = True := eq_true (sz_small (by decide))
theorem szT_4 : ((4 : Nat) ≤ sizeLine) = True := eq_true (sz_small (by decide))
theorem szT_5 : ((5 : Nat) ≤ sizeLine) = True := eq_true (sz_small (by decide))
theorem szT_6 : ((6 : Nat) ≤ sizeLine) = True := eq_true (sz_small (by decide))
theorem szT_7 : ((7 : Nat) ≤ sizeLine) = True := eq_true (sz_small (by decide))
theorem szT_8 : ((8 : Nat) ≤ sizeLine) = True := eq_true (sz_small (by decide))
theorem szT_9 : ((9 : Nat) ≤ sizeLine) = True := eq_true (sz_small (by decide))
theorem szT_10 : ((10 : Nat) ≤ sizeLine) = True := eq_true (sz_small (by decide))
theorem szT_11 : ((11 : Nat) ≤ sizeLine) = True := eq_true (sz_small (by decide))
theorem szT_12 : ((12 : Nat) ≤ sizeLine) = True := eq_true (sz_small (by decide))
/-! ### programs -/
inductive Pg where
  | nm (x : Str) | thing | take (x : Str) (k : Kd) (b : Pg) | give (f a : Pg) | pair (a b : Pg) | first (p : Pg) | second (p : Pg)
  deriving DecidableEq, Inhabited
def dP : Pg → D
  | .nm x => .tup [.str "name", .str x]
  | .thing => .tup [.str "thing"]
  | .take x k b => .tup [.str "take", .str x, dK k, dP b]
  | .give f a => .tup [.str "give", dP f, dP a]
  | .pair a b => .tup [.str "pair", dP a, dP b]
  | .first p => .tup [.str "first", dP p]
  | .second p => .tup [.str "second", dP p]
def Pg.ins : Pg → List Pg
  | .nm _ => []
  | .thing => []
  | .take _ _ b => [b]
  | .give f a => [f, a]
  | .pair a b => [a, b]
  | .first p => [p]
  | .second p => [p]
def Pg.hgt : Pg → Nat
  | .nm _ => 0
  | .thing => 0
  | .take _ _ b => b.hgt + 1
  | .give f a => max f.hgt a.hgt + 1
  | .pair a b => max a.hgt b.hgt + 1
  | .first p => p.hgt + 1
  | .second p => p.hgt + 1
def Pg.isTake : Pg → Bool
  | .take .. => true
  | _ => false
def Pg.isPair : Pg → Bool
  | .pair .. => true
  | _ => false
def Pg.can : Pg → Bool
  | .give f _ => f.isTake
  | .first p => p.isPair
  | .second p => p.isPair
  | _ => false
/-- the places at which a step can be done -/
def plc : Pg → List Int → List (List Int)
  | .nm _, _ => []
  | .thing, _ => []
  | .take _ _ b, pl => plc b (pl ++ [0])
  | .give f a, pl => (if f.isTake then [pl] else []) ++ plc f (pl ++ [0]) ++ plc a (pl ++ [1])
  | .pair a b, pl => plc a (pl ++ [0]) ++ plc b (pl ++ [1])
  | .first p, pl => (if p.isPair then [pl] else []) ++ plc p (pl ++ [0])
  | .second p, pl => (if p.isPair then [pl] else []) ++ plc p (pl ++ [0])
theorem plc_len : ∀ (p : Pg) (pl : List Int), (plc p pl).length + 1 ≤ 2 ^ (p.hgt + 1)
  | .nm _, pl => by simp [plc, Pg.hgt]
  | .thing, pl => by simp [plc, Pg.hgt]
  | .take _ _ b, pl => by
    have := plc_len b (pl ++ [0])
    simp only [plc, Pg.hgt]
    rw [Nat.pow_succ]; omega
  | .give f a, pl => by
    have h1 := plc_len f (pl ++ [0])
    have h2 := plc_len a (pl ++ [1])
    have h3 : 2 ^ (f.hgt + 1) ≤ 2 ^ (max f.hgt a.hgt + 1) := Nat.pow_le_pow_right (by decide) (by omega)
    have h4 : 2 ^ (a.hgt + 1) ≤ 2 ^ (max f.hgt a.hgt + 1) := Nat.pow_le_pow_right (by decide) (by omega)
    simp only [plc, Pg.hgt, List.length_append]
    have h5 : (if f.isTake then [pl] else []).length ≤ 1 := by split <;> simp
    rw [Nat.pow_succ 2 (max f.hgt a.hgt + 1)]
    omega
  | .pair a b, pl => by
    have h1 := plc_len a (pl ++ [0])
    have h2 := plc_len b (pl ++ [1])
    have h3 : 2 ^ (a.hgt + 1) ≤ 2 ^ (max a.hgt b.hgt + 1) := Nat.pow_le_pow_right (by decide) (by omega)
    have h4 : 2 ^ (b.hgt + 1) ≤ 2 ^ (max a.hgt b.hgt + 1) := Nat.pow_le_pow_right (by decide) (by omega)
    simp only [plc, Pg.hgt, List.length_append]
    rw [Nat.pow_succ 2 (max a.hgt b.hgt + 1)]
    omega
  | .first p, pl => by
    have h1 := plc_len p (pl ++ [0])
    simp only [plc, Pg.hgt, List.length_append]
    have h5 : (if p.isPair then [pl] else []).length ≤ 1 := by split <;> simp
    rw [Nat.pow_succ 2 (p.hgt + 1)]
    have : 2 ≤ 2 ^ (p.hgt + 1) := by rw [Nat.pow_succ]; have := Nat.one_le_two_pow (n := p.hgt); omega
    omega
  | .second p, pl => by
    have h1 := plc_len p (pl ++ [0])
    simp only [plc, Pg.hgt, List.length_append]
    have h5 : (if p.isPair then [pl] else []).length ≤ 1 := by split <;> simp
    rw [Nat.pow_succ 2 (p.hgt + 1)]
    have : 2 ≤ 2 ^ (p.hgt + 1) := by rw [Nat.pow_succ]; have := Nat.one_le_two_pow (n := p.hgt); omega
    omega
def plcs : List Pg → Nat → List Int → List (List Int)
  | [], _, _ => []
  | q :: qs, i, pl => plc q (pl ++ [(i : Int)]) ++ plcs qs (i + 1) pl
theorem plc_eq (p : Pg) (pl : List Int) : plc p pl = (if p.can then [pl] else []) ++ plcs p.ins 0 pl := by
  cases p <;> simp [plc, Pg.can, Pg.ins, plcs] <;> rfl
theorem ins_cases (p : Pg) : p.ins = [] ∨ (∃ x, p.ins = [x]) ∨ ∃ x y, p.ins = [x, y] := by
  cases p <;> simp [Pg.ins]
theorem ins_hgt {p q : Pg} (h : q ∈ p.ins) : q.hgt < p.hgt := by
  cases p <;> simp only [Pg.ins, List.mem_cons, List.not_mem_nil, or_false] at h
  · subst h; simp [Pg.hgt]
  · rcases h with rfl | rfl <;> simp only [Pg.hgt] <;> omega
  · rcases h with rfl | rfl <;> simp only [Pg.hgt] <;> omega
  · subst h; simp [Pg.hgt]
  · subst h; simp [Pg.hgt]
theorem plc_le {p : Pg} {pl : List Int} (h : p.hgt ≤ 20) : (plc p pl).length ≤ 2097152 := by
  have h1 := plc_len p pl
  have h2 : 2 ^ (p.hgt + 1) ≤ 2 ^ 21 := Nat.pow_le_pow_right (by decide) (by omega)
  have h3 : (2 : Nat) ^ 21 = 2097152 := by decide
  omega
theorem sz_21 {n : Nat} (h : n ≤ 4194304) : n ≤ sizeLine := Nat.le_trans h (by decide)
abbrev dI (q : List Int) : D := .lst (q.map .int)
theorem enum0 : enumD [] = [] := rfl
theorem enum1 (x : D) : enumD [x] = [.tup [.int 0, x]] := rfl
theorem enum2 (x y : D) : enumD [x, y] = [.tup [.int 0, x], .tup [.int 1, y]] := rfl
/-! ### rows of names -/
/-- what a name is by a row: the last one counts -/
def envOf (kn : List (Str × Kd)) (x : Str) : Option Kd := (kn.reverse.find? fun q => decide (q.1 = x)).map (·.2)
theorem envOf_nil (x : Str) : envOf [] x = none := rfl
theorem envOf_snoc (kn : List (Str × Kd)) (y : Str) (k : Kd) (x : Str) : envOf (kn ++ [(y, k)]) x = if y = x then some k else envOf kn x := by
  unfold envOf
  rw [List.reverse_append, List.reverse_singleton, List.singleton_append, List.find?_cons]
  by_cases h : y = x
  · simp [h]
  · simp [h]
/-- the kind of a program by what its names are -/
def hasK : (Str → Option Kd) → Pg → Kd → Prop
  | e, .nm x, k => e x = some k
  | _, .thing, k => k = .one
  | e, .take x a b, k => ∃ r, k = .to a r ∧ hasK (fun y => if x = y then some a else e y) b r
  | e, .give f a, k => ∃ c, hasK e f (.to c k) ∧ hasK e a c
  | e, .pair a b, k => ∃ c d, k = .both c d ∧ hasK e a c ∧ hasK e b d
  | e, .first p, k => ∃ d, hasK e p (.both k d)
  | e, .second p, k => ∃ c, hasK e p (.both c k)
end Kf
/-! Kls: lists of lists of numbers, owned ones too. -/
namespace Kf
open PySem PySem.Spec L2
open PyProof.Rows hiding St
theorem isPys_ints (q : List Int) : isPys (q.map D.int) = true := by
  rw [isPys_all, List.all_eq_true]
  intro d hd
  obtain ⟨t, _, rfl⟩ := List.mem_map.mp hd
  simp only [isPy]
theorem isPy_dI (q : List Int) : isPy (dI q) = true := by simp only [dI, isPy, isPys_ints]
theorem isPys_dI (qs : List (List Int)) : isPys (qs.map dI) = true := by
  rw [isPys_all, List.all_eq_true]
  intro d hd
  obtain ⟨t, _, rfl⟩ := List.mem_map.mp hd
  exact isPy_dI t
theorem deqs_ints : ∀ q : List Int, deqs (q.map D.int) (q.map D.int) = true
  | [] => deqs_nn
  | a :: q => by rw [List.map_cons, deqs_cc, deqs_ints q, deq_i]; simp
theorem deqs_dI : ∀ qs : List (List Int), deqs (qs.map dI) (qs.map dI) = true
  | [] => deqs_nn
  | a :: q => by rw [List.map_cons, deqs_cc, deqs_dI q]; simp only [dI, deq_l, deqs_ints]; rfl
theorem dp_int (i : Int) : dp (.int i) = 0 := by simp [dp, toPy, PyData.depth]
theorem dp_ints (q : List Int) : dp (.lst (q.map D.int)) ≤ 1 := by
  simp only [dp, toPy, PyData.depth]
  have : ∀ q : List Int, PyData.depthAll (toPys (q.map D.int)) = 0 := by
    intro q
    induction q with
    | nil => simp [toPys, PyData.depthAll]
    | cons a q ih => simp [toPys, PyData.depthAll, toPy, PyData.depth, ih]
  rw [this]; decide
theorem dp_dI (qs : List (List Int)) : dp (.lst (qs.map dI)) ≤ 2 := by
  simp only [dp, toPy, PyData.depth]
  have : ∀ qs : List (List Int), PyData.depthAll (toPys (qs.map dI)) ≤ 1 := by
    intro qs
    induction qs with
    | nil => simp [toPys, PyData.depthAll]
    | cons a q ih =>
      have h := dp_ints a
      simp only [dp] at h
      simp only [List.map_cons, toPys, PyData.depthAll, dI]
      omega
  have := this qs
  omega
section
variable {O : Ow} {neg : Bool} {Q : VD}
theorem rEq_ints (q : List Int) : rEqD neg (dI q) (dI q) O Q = Q (.bl (!neg)) O := by
  rw [rEq_d (by rw [show deref O (dI q) = dI q from rfl]; exact isPy_dI q) (by rw [show deref O (dI q) = dI q from rfl]; exact isPy_dI q) (by rw [show deref O (dI q) = dI q from rfl]; have := dp_ints q; simp only [dI]; omega), show deref O (dI q) = dI q from rfl]
  simp only [dI, deq_l, deqs_ints]
  cases neg <;> rfl
/-- an owned list of owned lists of numbers against one that never changes -/
theorem ddf_own {f : Addr} {rs : List Addr} {qs : List (List Int)} (hf : O f = some (.lst (rs.map .ref))) (h : Paired (fun r q => O r = some (.lst (q.map .int))) rs qs) : ddf O 192 (.ref f) = .lst (qs.map dI) := by
  have e : ∀ n, (rs.map D.ref).map (ddf O (n + 1)) = qs.map dI := by
    intro n
    clear hf
    induction h with
    | nil => rfl
    | @cons r q _ _ hr _ ih =>
      rw [List.map_cons, List.map_cons, List.map_cons, ih]
      congr 1
      have z : (q.map D.int).map (ddf O n) = q.map D.int := by
        rw [List.map_map]
        congr 1
        funext i
        exact ddf_py n (.int i) (by simp only [isPy])
      simp only [ddf, hr, z, dI]
  have e2 := e 190
  show ddf O (191 + 1) (.ref f) = _
  simp only [ddf, hf]
  rw [e2]
theorem rEq_own {f : Addr} {rs : List Addr} {qs : List (List Int)} (hf : O f = some (.lst (rs.map .ref))) (h : Paired (fun r q => O r = some (.lst (q.map .int))) rs qs) : rEqD neg (.ref f) (.lst (qs.map dI)) O Q = Q (.bl (!neg)) O := by
  have e1 := ddf_own hf h
  have hp : isPy (.lst (qs.map dI)) = true := by simp only [isPy, isPys_dI]
  have e2 : ddf O 192 (.lst (qs.map dI)) = .lst (qs.map dI) := ddf_py 192 _ hp
  rw [rEq_dd (by rw [e1]; exact hp) (by rw [e2]; exact hp) (by rw [e1]; have := dp_dI qs; omega), e1, e2, deq_l, deqs_dI]
  cases neg <;> rfl
end
/-! ### the lists within a thing -/
def Ls (O : Ow) : Nat → D → List Addr → Prop
  | _, .int _, rs => rs = []
  | n + 1, .ref a, rs => ∃ ds rss, O a = some (.lst ds) ∧ Paired (fun d r => Ls O n d r) ds rss ∧ rs = a :: rss.flatten
  | _, _, _ => False
theorem Ls.mono {O O' : Ow} (s : Sub O O') : ∀ {n : Nat} {x : D} {rs : List Addr}, Ls O n x rs → Ls O' n x rs
  | n, .int _, rs, h => by cases n <;> simpa only [Ls] using h
  | n + 1, .ref a, rs, h => by
    simp only [Ls] at h ⊢
    obtain ⟨ds, rss, h1, h2, h3⟩ := h
    exact ⟨ds, rss, s _ _ h1, Paired.mapP h2 fun _ _ z => Ls.mono s z, h3⟩
  | 0, .ref a, rs, h => by simp [Ls] at h
  | n, .non, rs, h => by cases n <;> simp [Ls] at h
  | n, .bl _, rs, h => by cases n <;> simp [Ls] at h
  | n, .str _, rs, h => by cases n <;> simp [Ls] at h
  | n, .tup _, rs, h => by cases n <;> simp [Ls] at h
  | n, .lst _, rs, h => by cases n <;> simp [Ls] at h
  | n, .ty _, rs, h => by cases n <;> simp [Ls] at h
  | n, .scr _, rs, h => by cases n <;> simp [Ls] at h
  | n, .edic, rs, h => by cases n <;> simp [Ls] at h
theorem ls_ints {O : Ow} {n : Nat} : ∀ q : List Int, Paired (fun d r => Ls O n d r) (q.map D.int) (q.map fun _ => [])
  | [] => .nil
  | a :: q => .cons (by cases n <;> simp only [Ls]) (ls_ints q)
theorem flat_nil {α : Type} : ∀ q : List Int, (q.map fun _ => ([] : List α)).flatten = []
  | [] => rfl
  | _ :: q => by rw [List.map_cons, List.flatten_cons, flat_nil q]; rfl
theorem ls_row {O : Ow} {a : Addr} {q : List Int} (h : O a = some (.lst (q.map .int))) : Ls O 1 (.ref a) [a] := by
  simp only [Ls]
  exact ⟨_, _, h, ls_ints q, by rw [flat_nil]⟩
theorem ls_rows {O : Ow} {f : Addr} {rs : List Addr} {qs : List (List Int)} (hf : O f = some (.lst (rs.map .ref))) (h : Paired (fun r q => O r = some (.lst (q.map .int))) rs qs) : Ls O 2 (.ref f) (f :: rs) := by
  simp only [Ls]
  refine ⟨_, rs.map fun r => [r], hf, ?_, ?_⟩
  · clear hf
    induction h with
    | nil => exact .nil
    | cons hr _ ih => exact .cons (ls_row hr) ih
  · congr 1
    clear hf h
    induction rs with
    | nil => rfl
    | cons r rs ih => rw [List.map_cons, List.flatten_cons, ← ih]; rfl
end Kf
namespace Kf
open PySem PySem.Spec L2
open PyProof.Rows hiding St
local macro_rules | `(tactic| walk_at "kf") => `(tactic| simp (config := { failIfUnchanged := false }) only [startD, ap_fiEnumT, asT1_t, ap_fKGet, asStr_s, ap_fKIn, ap_fKIx, ap_gAsgL, rUnl_l, ap_fiRng3, asR3_i, rSplitO_s, ap_fOrL, rOrL_l, ap_fLcK, ap_gForK, ap_fMaxD, rMaxD_l, rMaxL_l, ap_fCallXD, ap_gForE, asLE_l, ap_fFrz, ap_fDicO, ap_fDGet, ap_fDGet1, ap_fDGet2, ap_gDPut, ap_fIsiT, ap_gForR, rRep_l, isT_i, isT_s, isT_b, isT_n, isT_t, isT_l, ap_gSeq, ap_gIf, ap_gRet, ap_gNext, ap_gSet, ap_gAsg, ap_gDrop, ap_gRetF, ap_gRetN, ap_gFor, ap_gSetIx, ap_gBreak, ap_fRev, ap_fiRevR, asIR_i, rRev_l, ap_fCallX, ap_gRaise, ap_gTry, ap_gTryAs, ap_gNever, ap_fEdic, ap_fTest, ap_fOp, ap_fVar, envGet_s, patGet_s, ap_fC, ap_fCB, ap_fCons, ap_fNil, ap_fCall, ap_fAnd, ap_fOr, ap_fNot, ap_fAndV, ap_fOrV, ap_fNotV, ap_fIf, ap_fTup, ap_fLst, ap_fLstO, ap_fChain, ap_fUn, ap_fBM, ap_fBM0, ap_fPool, rPool_i, ap_fSl, ap_fPart, ap_fNoPart, asI_i, rSl_l, ap_fiRng1, ap_fiRng2, ap_fiList, ap_fiTup, ap_fiStr, ap_fiEnum, ap_fiZip, ap_fiRev, asL_l, asT_t, asSg_s, asR1_i, asR2_i, asL1_l, asL2_l, ap_fLc, ap_fLcO, ap_fYes, wipeD, lcD, isi_i_int, isi_i_bool, isi_i_str, isi_i_tuple, isi_i_list, isi_i_dict, isi_b_int, isi_b_bool, isi_b_str, isi_b_tuple, isi_b_list, isi_b_dict, isi_s_int, isi_s_bool, isi_s_str, isi_s_tuple, isi_s_list, isi_s_dict, isi_t_int, isi_t_bool, isi_t_str, isi_t_tuple, isi_t_list, isi_t_dict, isi_l_int, isi_l_bool, isi_l_str, isi_l_tuple, isi_l_list, isi_l_dict, isi_n_int, isi_n_bool, isi_n_str, isi_n_tuple, isi_n_list, isi_n_dict, isi_d_int, isi_d_bool, isi_d_str, isi_d_tuple, isi_d_list, isi_d_dict,
  deref_tup, deref_lst, deref_int, deref_str, deref_bl, deref_non, deref_scr, rLt_i, rLt_s, rLe_i, rLe_s, rInts_i, rInts0_i, rAdd_i, rAdd_s, rAdd_l, rAdd_t, rCatO_l, rNeg_i, rLen_t, rLen_l, rLen_c, rLen_s, rMax_i, rMin_i, rInt_i, rInt_b, rDivmod_i, ap_gAug, rStr_i, rList_l, rList_t, rListO_l, rListO_t, rTup_l, rTup_t,
  rIx_t0, rIx_t1, rIx_t2, rIx_t3, rIx_l0, rIx_l1, rIx_l2, rIsN_x, isNon_t, isNon_n, isNon_i, isNon_s, isNon_l, rEq_i, rEq_b, rEq_i2, rEq_b2, rJoin_m, rSplit_s, tyOk_l, tyOk_s, patD_nm, patD_tp, patDs_nil, patDs_cons, Option.bind_some, notX, notX',
  List.map_cons, List.map_nil, List.length_cons, List.length_nil, List.cons_append, List.nil_append, List.append_nil, List.replicate, List.getElem?_cons_zero, List.getElem?_cons_succ, List.set_cons_zero, List.set_cons_succ, updO_same, updO_updO,
  Nat.reduceSub, Nat.reduceAdd, Nat.reduceLeDiff, Nat.zero_add, Int.cast_ofNat_Int, Int.natCast_zero, Int.natCast_one, Int.reduceLT, Int.reduceLE, Int.reduceEq, Int.reduceAdd, Int.reduceSub, Int.reduceNeg, decide_true, decide_false, if_true, if_false, Bool.false_eq_true, eq_self, reduceIte, Bool.true_eq_false, decide_eq_true_eq, Bool.not_true, Bool.not_false, Bool.not_eq_true', decide_eq_false_iff_not, exists_eq_left', exists_eq_left, D.bl.injEq, true_and, and_true, not_true_eq_false, not_false_eq_true])
local macro_rules | `(tactic| walk_at "len") => `(tactic| (intro ds O R RE h; first | (obtain ⟨e, _⟩ := h; subst e; rfl) | (obtain ⟨_, e, _⟩ := h; subst e; rfl) | (obtain ⟨_, _, e, _⟩ := h; subst e; rfl) | (obtain ⟨_, _, _, e, _⟩ := h; subst e; rfl) | (obtain ⟨_, _, _, _, e, _⟩ := h; subst e; rfl) | (obtain ⟨_, _, _, _, _, e, _⟩ := h; subst e; rfl) | (obtain ⟨_, _, _, _, _, _, e, _⟩ := h; subst e; rfl) | (obtain ⟨_, _, _, _, _, _, _, e, _⟩ := h; subst e; rfl) | (obtain ⟨_, _, _, _, _, _, _, _, e, _⟩ := h; subst e; rfl) | (obtain ⟨_, _, _, _, _, _, _, _, _, e, _⟩ := h; subst e; rfl)))
local macro_rules | `(tactic| walk_at "kf1") => `(tactic| simp (config := { failIfUnchanged := false }) only [startD, ap_fiEnumT, asT1_t, ap_fKGet, asStr_s, ap_fKIn, ap_fKIx, ap_gAsgL, rUnl_l, ap_fiRng3, asR3_i, rSplitO_s, ap_fOrL, rOrL_l, ap_fLcK, ap_gForK, ap_fMaxD, rMaxD_l, rMaxL_l, ap_fCallXD, ap_gForE, asLE_l, ap_fFrz, ap_fDicO, ap_fDGet, ap_fDGet1, ap_fDGet2, ap_gDPut, ap_fIsiT, ap_gForR, rRep_l, isT_i, isT_s, isT_b, isT_n, isT_t, isT_l, ap_gIf, ap_gRet, ap_gNext, ap_gSet, ap_gAsg, ap_gDrop, ap_gRetF, ap_gRetN, ap_gFor, ap_gSetIx, ap_gBreak, ap_fRev, ap_fiRevR, asIR_i, rRev_l, ap_fCallX, ap_gRaise, ap_gTry, ap_gTryAs, ap_gNever, ap_fEdic, ap_fTest, ap_fOp, ap_fVar, envGet_s, patGet_s, ap_fC, ap_fCB, ap_fCons, ap_fNil, ap_fCall, ap_fAnd, ap_fOr, ap_fNot, ap_fAndV, ap_fOrV, ap_fNotV, ap_fIf, ap_fTup, ap_fLst, ap_fLstO, ap_fChain, ap_fUn, ap_fBM, ap_fBM0, ap_fPool, rPool_i, ap_fSl, ap_fPart, ap_fNoPart, asI_i, rSl_l, ap_fiRng1, ap_fiRng2, ap_fiList, ap_fiTup, ap_fiStr, ap_fiEnum, ap_fiZip, ap_fiRev, asL_l, asT_t, asSg_s, asR1_i, asR2_i, asL1_l, asL2_l, ap_fLc, ap_fLcO, ap_fYes, wipeD, lcD, isi_i_int, isi_i_bool, isi_i_str, isi_i_tuple, isi_i_list, isi_i_dict, isi_b_int, isi_b_bool, isi_b_str, isi_b_tuple, isi_b_list, isi_b_dict, isi_s_int, isi_s_bool, isi_s_str, isi_s_tuple, isi_s_list, isi_s_dict, isi_t_int, isi_t_bool, isi_t_str, isi_t_tuple, isi_t_list, isi_t_dict, isi_l_int, isi_l_bool, isi_l_str, isi_l_tuple, isi_l_list, isi_l_dict, isi_n_int, isi_n_bool, isi_n_str, isi_n_tuple, isi_n_list, isi_n_dict, isi_d_int, isi_d_bool, isi_d_str, isi_d_tuple, isi_d_list, isi_d_dict,
  deref_tup, deref_lst, deref_int, deref_str, deref_bl, deref_non, deref_scr, rLt_i, rLt_s, rLe_i, rLe_s, rInts_i, rInts0_i, rAdd_i, rAdd_s, rAdd_l, rAdd_t, rCatO_l, rNeg_i, rLen_t, rLen_l, rLen_c, rLen_s, rMax_i, rMin_i, rInt_i, rInt_b, rDivmod_i, ap_gAug, rStr_i, rList_l, rList_t, rListO_l, rListO_t, rTup_l, rTup_t,
  rIx_t0, rIx_t1, rIx_t2, rIx_t3, rIx_l0, rIx_l1, rIx_l2, rIsN_x, isNon_t, isNon_n, isNon_i, isNon_s, isNon_l, rEq_i, rEq_b, rEq_i2, rEq_b2, rJoin_m, rSplit_s, tyOk_l, tyOk_s, patD_nm, patD_tp, patDs_nil, patDs_cons, Option.bind_some, notX, notX',
  List.map_cons, List.map_nil, List.length_cons, List.length_nil, List.cons_append, List.nil_append, List.append_nil, List.replicate, List.getElem?_cons_zero, List.getElem?_cons_succ, List.set_cons_zero, List.set_cons_succ, updO_same, updO_updO,
  Nat.reduceSub, Nat.reduceAdd, Nat.reduceLeDiff, Nat.zero_add, Int.cast_ofNat_Int, Int.natCast_zero, Int.natCast_one, Int.reduceLT, Int.reduceLE, Int.reduceEq, Int.reduceAdd, Int.reduceSub, Int.reduceNeg, decide_true, decide_false, if_true, if_false, Bool.false_eq_true, eq_self, reduceIte, Bool.true_eq_false, decide_eq_true_eq, Bool.not_true, Bool.not_false, Bool.not_eq_true', decide_eq_false_iff_not, exists_eq_left', exists_eq_left, D.bl.injEq, true_and, and_true, not_true_eq_false, not_false_eq_true])
section
variable {P : Program} {w : World} {K : PySem.W.Frag} {mg : Str → Option Value} {base : Heap}
local macro_rules | `(tactic| walk_at "tg") => `(tactic| simp (config := { failIfUnchanged := false }) only [te_name_take, te_name_give, te_name_pair, te_name_first, te_name_second, te_name_to, te_name_both, te_name_one, te_name_mark, te_name_name, te_name_thing, te_name_at, te_thing_take, te_thing_give, te_thing_pair, te_thing_first, te_thing_second, te_thing_to, te_thing_both, te_thing_one, te_thing_mark, te_thing_name, te_thing_thing, te_thing_at, te_take_take, te_take_give, te_take_pair, te_take_first, te_take_second, te_take_to, te_take_both, te_take_one, te_take_mark, te_take_name, te_take_thing, te_take_at, te_give_take, te_give_give, te_give_pair, te_give_first, te_give_second, te_give_to, te_give_both, te_give_one, te_give_mark, te_give_name, te_give_thing, te_give_at, te_pair_take, te_pair_give, te_pair_pair, te_pair_first, te_pair_second, te_pair_to, te_pair_both, te_pair_one, te_pair_mark, te_pair_name, te_pair_thing, te_pair_at, te_first_take, te_first_give, te_first_pair, te_first_first, te_first_second, te_first_to, te_first_both, te_first_one, te_first_mark, te_first_name, te_first_thing, te_first_at, te_second_take, te_second_give, te_second_pair, te_second_first, te_second_second, te_second_to, te_second_both, te_second_one, te_second_mark, te_second_name, te_second_thing, te_second_at, te_mark_take, te_mark_give, te_mark_pair, te_mark_first, te_mark_second, te_mark_to, te_mark_both, te_mark_one, te_mark_mark, te_mark_name, te_mark_thing, te_mark_at, te_one_take, te_one_give, te_one_pair, te_one_first, te_one_second, te_one_to, te_one_both, te_one_one, te_one_mark, te_one_name, te_one_thing, te_one_at, te_to_take, te_to_give, te_to_pair, te_to_first, te_to_second, te_to_to, te_to_both, te_to_one, te_to_mark, te_to_name, te_to_thing, te_to_at, te_both_take, te_both_give, te_both_pair, te_both_first, te_both_second, te_both_to, te_both_both, te_both_one, te_both_mark, te_both_name, te_both_thing, te_both_at, te_at_take, te_at_give, te_at_pair, te_at_first, te_at_second, te_at_to, te_at_both, te_at_one, te_at_mark, te_at_name, te_at_thing, te_at_at, ti4_name, ti4_thing, ti4_take, ti4_give, ti4_pair, ti4_first, ti4_second, ti2_name, ti2_thing, ti2_take, ti2_give, ti2_pair, ti2_first, ti2_second, szT_0, szT_1, szT_2, szT_3, szT_4, szT_5, szT_6, szT_7, szT_8, szT_9, szT_10, szT_11, szT_12, Bool.not_true, Bool.not_false, true_and])
theorem ok_pool {a : Addr} {fd : FuncData} {k : Nat} (N : Fn K mg "_law_pool" s__law_pool P__law_pool a fd) (m_len : mg "len" = none) : FnOk P w K mg base CX0 (k + 1) a fd P__law_pool (liftSp K spPool) := by
  refine fn_d (g := g__law_pool) N.F sc__law_pool (fun ds O R RE ⟨ns, k, e, _⟩ => by rw [e]; rfl) (der__law_pool m_len) ?_
  rintro ds O R RE ⟨ns, k, rfl, h0, h1, hR⟩
  unfold g__law_pool
  walk_at "kf"
  have c1 : CMul 104729 k := Or.inl ⟨by decide, by decide⟩
  have c2 : CMul (104729 * k) k := Or.inr ⟨by omega, by omega⟩
  have c3 : CPow 10 18 := ⟨by decide, by decide, by decide⟩
  have e18 : (10 : Int) ^ Int.toNat 18 = 1000000000000000000 := by decide
  split
  · obtain ⟨n, e1, _⟩ := atI_some (xs := ns) h0 (by assumption)
    simp only [rIx_c e1]
    walk_at "kf"
    refine ⟨c1, c2, poolNum n h0 h1, c3, ?_⟩
    rw [e18]
    split
    · exact ⟨(poolMod _).1, (poolMod _).2, hR⟩
    · exact ⟨by omega, (poolMod _).1, (poolMod _).2, hR⟩
  · refine ⟨c1, c2, poolNum 0 h0 h1, c3, (poolMod _).1, (poolMod _).2, hR⟩
theorem ok_take {a : Addr} {fd : FuncData} {k : Nat} (N : Fn K mg "_law_take" s__law_take P__law_take a fd) : FnOk P w K mg base CX0 (k + 1) a fd P__law_take (liftSp K spTake) := by
  refine fn_d (g := g__law_take) N.F sc__law_take (fun ds O R RE ⟨ns, k, e, _⟩ => by rw [e]; rfl) der__law_take ?_
  rintro ds O R RE ⟨p, m, rfl, hp, h0, h1, hR⟩
  unfold g__law_take
  walk_at "kf"
  simp only [rIx_p0 hp, rIx_p1 hp]
  intro x hx
  walk_at "kf"
  split
  · simp only [rIx_p0 hp]
    intro y hy
    walk_at "kf"
    refine ⟨h0, ?_⟩
    simp only [rIx_p0 hp]
    intro z hz
    walk_at "kf"
    refine ⟨⟨h0, h1⟩, ?_⟩
    simp only [rSet_p0 hp]
    exact ⟨Int.ediv_nonneg hz (by omega), hR _ (Int.emod_nonneg _ (by omega)) (Int.emod_lt_of_pos _ h0)⟩
  · simp only [rIx_p1 hp]
    intro y hy hy2
    walk_at "kf"
    refine ⟨Or.inr ⟨by decide, by decide⟩, ?_⟩
    simp only [rSet_p1 hp]
    refine ⟨poolMod _, ?_⟩
    walk_at "kf"
    simp only [rIx_p1 hp]
    intro z hz hz2
    intro u hu hu2
    walk_at "kf"
    exact ⟨Or.inl ⟨by omega, by omega⟩, ⟨by decide, by decide⟩, h0, hR _ (Int.emod_nonneg _ (by omega)) (Int.emod_lt_of_pos _ h0)⟩
theorem rIsXD_t {O : Ow} {Q : VD} {a C : Addr} {fs : Option (List (Str × D))} {cs : List D} {us : List Value} {b : Bool} (h : O a = some (.exc (.ref C) fs)) (hC : ExcC K C) (p : Paired clsD cs us) (e : PySem.W.kitAny K (.ref C) us = some b) (q : Q (.bl b) O) : rIsXD K [.ref a, .tup cs] O Q := ⟨C, fs, us, b, h, hC, p, e, q⟩
theorem rIsXD_r {O : Ow} {Q : VD} {a C c : Addr} {fs : Option (List (Str × D))} {b : Bool} (h : O a = some (.exc (.ref C) fs)) (hC : ExcC K C) (e : PySem.W.kitOne K (.ref C) (.ref c) = some b) (q : Q (.bl b) O) : rIsXD K [.ref a, .ref c] O Q := ⟨C, fs, .ref c, b, h, hC, rfl, e, q⟩
theorem rIsXD_y {O : Ow} {Q : VD} {a C : Addr} {c : String} {fs : Option (List (Str × D))} {b : Bool} (h : O a = some (.exc (.ref C) fs)) (hC : ExcC K C) (e : PySem.W.kitOne K (.ref C) (.type c) = some b) (q : Q (.bl b) O) : rIsXD K [.ref a, .ty c] O Q := ⟨C, fs, .type c, b, h, hC, rfl, e, q⟩
def eC (T : Tx K mg) : Nat → Addr
  | 0 => T.C_NoKind
  | 1 => T.C_NoText
  | 2 => T.C_NoStep
  | 3 => T.C_TooLong
  | 4 => T.C_TooMany
  | 5 => T.C_NoLong
  | 6 => T.C_NoNumber
  | 7 => T.C_NoRow
  | 8 => T.C_NoName
  | 9 => T.C_Twice
  | 10 => T.C_Used
  | 11 => T.C_NoGap
  | 12 => T.C_NoTree
  | 13 => T.C_NoUndo
  | 14 => T.C_NoFit
  | _ => T.C_NoMaking
def eFs (th : List Int) : Nat → Option (List (Str × D))
  | 14 => some [("place", .lst (th.map .int))]
  | 15 => some [("at", .int th.length)]
  | _ => none
theorem kit_0 (T : Tx K mg) : ∀ j, j < 16 → PySem.W.kitOne K (.ref (eC T 0)) (.ref (eC T j)) = some (0 == j)
  | 0, _ => T.k_NoKind.kit T.k_NoKind.sf
  | 1, _ => T.k_NoText.kit T.sb_NoKind_NoText
  | 2, _ => T.k_NoStep.kit T.sb_NoKind_NoStep
  | 3, _ => T.k_TooLong.kit T.sb_NoKind_TooLong
  | 4, _ => T.k_TooMany.kit T.sb_NoKind_TooMany
  | 5, _ => T.k_NoLong.kit T.sb_NoKind_NoLong
  | 6, _ => T.k_NoNumber.kit T.sb_NoKind_NoNumber
  | 7, _ => T.k_NoRow.kit T.sb_NoKind_NoRow
  | 8, _ => T.k_NoName.kit T.sb_NoKind_NoName
  | 9, _ => T.k_Twice.kit T.sb_NoKind_Twice
  | 10, _ => T.k_Used.kit T.sb_NoKind_Used
  | 11, _ => T.k_NoGap.kit T.sb_NoKind_NoGap
  | 12, _ => T.k_NoTree.kit T.sb_NoKind_NoTree
  | 13, _ => T.k_NoUndo.kit T.sb_NoKind_NoUndo
  | 14, _ => T.k_NoFit.kit T.sb_NoKind_NoFit
  | 15, _ => T.k_NoMaking.kit T.sb_NoKind_NoMaking
  | j + 16, h => absurd h (by omega)
theorem kit_1 (T : Tx K mg) : ∀ j, j < 16 → PySem.W.kitOne K (.ref (eC T 1)) (.ref (eC T j)) = some (1 == j)
  | 0, _ => T.k_NoKind.kit T.sb_NoText_NoKind
  | 1, _ => T.k_NoText.kit T.k_NoText.sf
  | 2, _ => T.k_NoStep.kit T.sb_NoText_NoStep
  | 3, _ => T.k_TooLong.kit T.sb_NoText_TooLong
  | 4, _ => T.k_TooMany.kit T.sb_NoText_TooMany
  | 5, _ => T.k_NoLong.kit T.sb_NoText_NoLong
  | 6, _ => T.k_NoNumber.kit T.sb_NoText_NoNumber
  | 7, _ => T.k_NoRow.kit T.sb_NoText_NoRow
  | 8, _ => T.k_NoName.kit T.sb_NoText_NoName
  | 9, _ => T.k_Twice.kit T.sb_NoText_Twice
  | 10, _ => T.k_Used.kit T.sb_NoText_Used
  | 11, _ => T.k_NoGap.kit T.sb_NoText_NoGap
  | 12, _ => T.k_NoTree.kit T.sb_NoText_NoTree
  | 13, _ => T.k_NoUndo.kit T.sb_NoText_NoUndo
  | 14, _ => T.k_NoFit.kit T.sb_NoText_NoFit
  | 15, _ => T.k_NoMaking.kit T.sb_NoText_NoMaking
  | j + 16, h => absurd h (by omega)
theorem kit_2 (T : Tx K mg) : ∀ j, j < 16 → PySem.W.kitOne K (.ref (eC T 2)) (.ref (eC T j)) = some (2 == j)
  | 0, _ => T.k_NoKind.kit T.sb_NoStep_NoKind
  | 1, _ => T.k_NoText.kit T.sb_NoStep_NoText
  | 2, _ => T.k_NoStep.kit T.k_NoStep.sf
  | 3, _ => T.k_TooLong.kit T.sb_NoStep_TooLong
  | 4, _ => T.k_TooMany.kit T.sb_NoStep_TooMany
  | 5, _ => T.k_NoLong.kit T.sb_NoStep_NoLong
  | 6, _ => T.k_NoNumber.kit T.sb_NoStep_NoNumber
  | 7, _ => T.k_NoRow.kit T.sb_NoStep_NoRow
  | 8, _ => T.k_NoName.kit T.sb_NoStep_NoName
  | 9, _ => T.k_Twice.kit T.sb_NoStep_Twice
  | 10, _ => T.k_Used.kit T.sb_NoStep_Used
  | 11, _ => T.k_NoGap.kit T.sb_NoStep_NoGap
  | 12, _ => T.k_NoTree.kit T.sb_NoStep_NoTree
  | 13, _ => T.k_NoUndo.kit T.sb_NoStep_NoUndo
  | 14, _ => T.k_NoFit.kit T.sb_NoStep_NoFit
  | 15, _ => T.k_NoMaking.kit T.sb_NoStep_NoMaking
  | j + 16, h => absurd h (by omega)
theorem kit_3 (T : Tx K mg) : ∀ j, j < 16 → PySem.W.kitOne K (.ref (eC T 3)) (.ref (eC T j)) = some (3 == j)
  | 0, _ => T.k_NoKind.kit T.sb_TooLong_NoKind
  | 1, _ => T.k_NoText.kit T.sb_TooLong_NoText
  | 2, _ => T.k_NoStep.kit T.sb_TooLong_NoStep
  | 3, _ => T.k_TooLong.kit T.k_TooLong.sf
  | 4, _ => T.k_TooMany.kit T.sb_TooLong_TooMany
  | 5, _ => T.k_NoLong.kit T.sb_TooLong_NoLong
  | 6, _ => T.k_NoNumber.kit T.sb_TooLong_NoNumber
  | 7, _ => T.k_NoRow.kit T.sb_TooLong_NoRow
  | 8, _ => T.k_NoName.kit T.sb_TooLong_NoName
  | 9, _ => T.k_Twice.kit T.sb_TooLong_Twice
  | 10, _ => T.k_Used.kit T.sb_TooLong_Used
  | 11, _ => T.k_NoGap.kit T.sb_TooLong_NoGap
  | 12, _ => T.k_NoTree.kit T.sb_TooLong_NoTree
  | 13, _ => T.k_NoUndo.kit T.sb_TooLong_NoUndo
  | 14, _ => T.k_NoFit.kit T.sb_TooLong_NoFit
  | 15, _ => T.k_NoMaking.kit T.sb_TooLong_NoMaking
  | j + 16, h => absurd h (by omega)
theorem kit_4 (T : Tx K mg) : ∀ j, j < 16 → PySem.W.kitOne K (.ref (eC T 4)) (.ref (eC T j)) = some (4 == j)
  | 0, _ => T.k_NoKind.kit T.sb_TooMany_NoKind
  | 1, _ => T.k_NoText.kit T.sb_TooMany_NoText
  | 2, _ => T.k_NoStep.kit T.sb_TooMany_NoStep
  | 3, _ => T.k_TooLong.kit T.sb_TooMany_TooLong
  | 4, _ => T.k_TooMany.kit T.k_TooMany.sf
  | 5, _ => T.k_NoLong.kit T.sb_TooMany_NoLong
  | 6, _ => T.k_NoNumber.kit T.sb_TooMany_NoNumber
  | 7, _ => T.k_NoRow.kit T.sb_TooMany_NoRow
  | 8, _ => T.k_NoName.kit T.sb_TooMany_NoName
  | 9, _ => T.k_Twice.kit T.sb_TooMany_Twice
  | 10, _ => T.k_Used.kit T.sb_TooMany_Used
  | 11, _ => T.k_NoGap.kit T.sb_TooMany_NoGap
  | 12, _ => T.k_NoTree.kit T.sb_TooMany_NoTree
  | 13, _ => T.k_NoUndo.kit T.sb_TooMany_NoUndo
  | 14, _ => T.k_NoFit.kit T.sb_TooMany_NoFit
  | 15, _ => T.k_NoMaking.kit T.sb_TooMany_NoMaking
  | j + 16, h => absurd h (by omega)
theorem kit_5 (T : Tx K mg) : ∀ j, j < 16 → PySem.W.kitOne K (.ref (eC T 5)) (.ref (eC T j)) = some (5 == j)
  | 0, _ => T.k_NoKind.kit T.sb_NoLong_NoKind
  | 1, _ => T.k_NoText.kit T.sb_NoLong_NoText
  | 2, _ => T.k_NoStep.kit T.sb_NoLong_NoStep
  | 3, _ => T.k_TooLong.kit T.sb_NoLong_TooLong
  | 4, _ => T.k_TooMany.kit T.sb_NoLong_TooMany
  | 5, _ => T.k_NoLong.kit T.k_NoLong.sf
  | 6, _ => T.k_NoNumber.kit T.sb_NoLong_NoNumber
  | 7, _ => T.k_NoRow.kit T.sb_NoLong_NoRow
  | 8, _ => T.k_NoName.kit T.sb_NoLong_NoName
  | 9, _ => T.k_Twice.kit T.sb_NoLong_Twice
  | 10, _ => T.k_Used.kit T.sb_NoLong_Used
  | 11, _ => T.k_NoGap.kit T.sb_NoLong_NoGap
  | 12, _ => T.k_NoTree.kit T.sb_NoLong_NoTree
  | 13, _ => T.k_NoUndo.kit T.sb_NoLong_NoUndo
  | 14, _ => T.k_NoFit.kit T.sb_NoLong_NoFit
  | 15, _ => T.k_NoMaking.kit T.sb_NoLong_NoMaking
  | j + 16, h => absurd h (by omega)
theorem kit_6 (T : Tx K mg) : ∀ j, j < 16 → PySem.W.kitOne K (.ref (eC T 6)) (.ref (eC T j)) = some (6 == j)
  | 0, _ => T.k_NoKind.kit T.sb_NoNumber_NoKind
  | 1, _ => T.k_NoText.kit T.sb_NoNumber_NoText
  | 2, _ => T.k_NoStep.kit T.sb_NoNumber_NoStep
  | 3, _ => T.k_TooLong.kit T.sb_NoNumber_TooLong
  | 4, _ => T.k_TooMany.kit T.sb_NoNumber_TooMany
  | 5, _ => T.k_NoLong.kit T.sb_NoNumber_NoLong
  | 6, _ => T.k_NoNumber.kit T.k_NoNumber.sf
  | 7, _ => T.k_NoRow.kit T.sb_NoNumber_NoRow
  | 8, _ => T.k_NoName.kit T.sb_NoNumber_NoName
  | 9, _ => T.k_Twice.kit T.sb_NoNumber_Twice
  | 10, _ => T.k_Used.kit T.sb_NoNumber_Used
  | 11, _ => T.k_NoGap.kit T.sb_NoNumber_NoGap
  | 12, _ => T.k_NoTree.kit T.sb_NoNumber_NoTree
  | 13, _ => T.k_NoUndo.kit T.sb_NoNumber_NoUndo
  | 14, _ => T.k_NoFit.kit T.sb_NoNumber_NoFit
  | 15, _ => T.k_NoMaking.kit T.sb_NoNumber_NoMaking
  | j + 16, h => absurd h (by omega)
theorem kit_7 (T : Tx K mg) : ∀ j, j < 16 → PySem.W.kitOne K (.ref (eC T 7)) (.ref (eC T j)) = some (7 == j)
  | 0, _ => T.k_NoKind.kit T.sb_NoRow_NoKind
  | 1, _ => T.k_NoText.kit T.sb_NoRow_NoText
  | 2, _ => T.k_NoStep.kit T.sb_NoRow_NoStep
  | 3, _ => T.k_TooLong.kit T.sb_NoRow_TooLong
  | 4, _ => T.k_TooMany.kit T.sb_NoRow_TooMany
  | 5, _ => T.k_NoLong.kit T.sb_NoRow_NoLong
  | 6, _ => T.k_NoNumber.kit T.sb_NoRow_NoNumber
  | 7, _ => T.k_NoRow.kit T.k_NoRow.sf
  | 8, _ => T.k_NoName.kit T.sb_NoRow_NoName
  | 9, _ => T.k_Twice.kit T.sb_NoRow_Twice
  | 10, _ => T.k_Used.kit T.sb_NoRow_Used
  | 11, _ => T.k_NoGap.kit T.sb_NoRow_NoGap
  | 12, _ => T.k_NoTree.kit T.sb_NoRow_NoTree
  | 13, _ => T.k_NoUndo.kit T.sb_NoRow_NoUndo
  | 14, _ => T.k_NoFit.kit T.sb_NoRow_NoFit
  | 15, _ => T.k_NoMaking.kit T.sb_NoRow_NoMaking
  | j + 16, h => absurd h (by omega)
theorem kit_8 (T : Tx K mg) : ∀ j, j < 16 → PySem.W.kitOne K (.ref (eC T 8)) (.ref (eC T j)) = some (8 == j)
  | 0, _ => T.k_NoKind.kit T.sb_NoName_NoKind
  | 1, _ => T.k_NoText.kit T.sb_NoName_NoText
  | 2, _ => T.k_NoStep.kit T.sb_NoName_NoStep
  | 3, _ => T.k_TooLong.kit T.sb_NoName_TooLong
  | 4, _ => T.k_TooMany.kit T.sb_NoName_TooMany
  | 5, _ => T.k_NoLong.kit T.sb_NoName_NoLong
  | 6, _ => T.k_NoNumber.kit T.sb_NoName_NoNumber
  | 7, _ => T.k_NoRow.kit T.sb_NoName_NoRow
  | 8, _ => T.k_NoName.kit T.k_NoName.sf
  | 9, _ => T.k_Twice.kit T.sb_NoName_Twice
  | 10, _ => T.k_Used.kit T.sb_NoName_Used
  | 11, _ => T.k_NoGap.kit T.sb_NoName_NoGap
  | 12, _ => T.k_NoTree.kit T.sb_NoName_NoTree
  | 13, _ => T.k_NoUndo.kit T.sb_NoName_NoUndo
  | 14, _ => T.k_NoFit.kit T.sb_NoName_NoFit
  | 15, _ => T.k_NoMaking.kit T.sb_NoName_NoMaking
  | j + 16, h => absurd h (by omega)
theorem kit_9 (T : Tx K mg) : ∀ j, j < 16 → PySem.W.kitOne K (.ref (eC T 9)) (.ref (eC T j)) = some (9 == j)
  | 0, _ => T.k_NoKind.kit T.sb_Twice_NoKind
  | 1, _ => T.k_NoText.kit T.sb_Twice_NoText
  | 2, _ => T.k_NoStep.kit T.sb_Twice_NoStep
  | 3, _ => T.k_TooLong.kit T.sb_Twice_TooLong
  | 4, _ => T.k_TooMany.kit T.sb_Twice_TooMany
  | 5, _ => T.k_NoLong.kit T.sb_Twice_NoLong
  | 6, _ => T.k_NoNumber.kit T.sb_Twice_NoNumber
  | 7, _ => T.k_NoRow.kit T.sb_Twice_NoRow
  | 8, _ => T.k_NoName.kit T.sb_Twice_NoName
  | 9, _ => T.k_Twice.kit T.k_Twice.sf
  | 10, _ => T.k_Used.kit T.sb_Twice_Used
  | 11, _ => T.k_NoGap.kit T.sb_Twice_NoGap
  | 12, _ => T.k_NoTree.kit T.sb_Twice_NoTree
  | 13, _ => T.k_NoUndo.kit T.sb_Twice_NoUndo
  | 14, _ => T.k_NoFit.kit T.sb_Twice_NoFit
  | 15, _ => T.k_NoMaking.kit T.sb_Twice_NoMaking
  | j + 16, h => absurd h (by omega)
theorem kit_10 (T : Tx K mg) : ∀ j, j < 16 → PySem.W.kitOne K (.ref (eC T 10)) (.ref (eC T j)) = some (10 == j)
  | 0, _ => T.k_NoKind.kit T.sb_Used_NoKind
  | 1, _ => T.k_NoText.kit T.sb_Used_NoText
  | 2, _ => T.k_NoStep.kit T.sb_Used_NoStep
  | 3, _ => T.k_TooLong.kit T.sb_Used_TooLong
  | 4, _ => T.k_TooMany.kit T.sb_Used_TooMany
  | 5, _ => T.k_NoLong.kit T.sb_Used_NoLong
  | 6, _ => T.k_NoNumber.kit T.sb_Used_NoNumber
  | 7, _ => T.k_NoRow.kit T.sb_Used_NoRow
  | 8, _ => T.k_NoName.kit T.sb_Used_NoName
  | 9, _ => T.k_Twice.kit T.sb_Used_Twice
  | 10, _ => T.k_Used.kit T.k_Used.sf
  | 11, _ => T.k_NoGap.kit T.sb_Used_NoGap
  | 12, _ => T.k_NoTree.kit T.sb_Used_NoTree
  | 13, _ => T.k_NoUndo.kit T.sb_Used_NoUndo
  | 14, _ => T.k_NoFit.kit T.sb_Used_NoFit
  | 15, _ => T.k_NoMaking.kit T.sb_Used_NoMaking
  | j + 16, h => absurd h (by omega)
theorem kit_11 (T : Tx K mg) : ∀ j, j < 16 → PySem.W.kitOne K (.ref (eC T 11)) (.ref (eC T j)) = some (11 == j)
  | 0, _ => T.k_NoKind.kit T.sb_NoGap_NoKind
  | 1, _ => T.k_NoText.kit T.sb_NoGap_NoText
  | 2, _ => T.k_NoStep.kit T.sb_NoGap_NoStep
  | 3, _ => T.k_TooLong.kit T.sb_NoGap_TooLong
  | 4, _ => T.k_TooMany.kit T.sb_NoGap_TooMany
  | 5, _ => T.k_NoLong.kit T.sb_NoGap_NoLong
  | 6, _ => T.k_NoNumber.kit T.sb_NoGap_NoNumber
  | 7, _ => T.k_NoRow.kit T.sb_NoGap_NoRow
  | 8, _ => T.k_NoName.kit T.sb_NoGap_NoName
  | 9, _ => T.k_Twice.kit T.sb_NoGap_Twice
  | 10, _ => T.k_Used.kit T.sb_NoGap_Used
  | 11, _ => T.k_NoGap.kit T.k_NoGap.sf
  | 12, _ => T.k_NoTree.kit T.sb_NoGap_NoTree
  | 13, _ => T.k_NoUndo.kit T.sb_NoGap_NoUndo
  | 14, _ => T.k_NoFit.kit T.sb_NoGap_NoFit
  | 15, _ => T.k_NoMaking.kit T.sb_NoGap_NoMaking
  | j + 16, h => absurd h (by omega)
theorem kit_12 (T : Tx K mg) : ∀ j, j < 16 → PySem.W.kitOne K (.ref (eC T 12)) (.ref (eC T j)) = some (12 == j)
  | 0, _ => T.k_NoKind.kit T.sb_NoTree_NoKind
  | 1, _ => T.k_NoText.kit T.sb_NoTree_NoText
  | 2, _ => T.k_NoStep.kit T.sb_NoTree_NoStep
  | 3, _ => T.k_TooLong.kit T.sb_NoTree_TooLong
  | 4, _ => T.k_TooMany.kit T.sb_NoTree_TooMany
  | 5, _ => T.k_NoLong.kit T.sb_NoTree_NoLong
  | 6, _ => T.k_NoNumber.kit T.sb_NoTree_NoNumber
  | 7, _ => T.k_NoRow.kit T.sb_NoTree_NoRow
  | 8, _ => T.k_NoName.kit T.sb_NoTree_NoName
  | 9, _ => T.k_Twice.kit T.sb_NoTree_Twice
  | 10, _ => T.k_Used.kit T.sb_NoTree_Used
  | 11, _ => T.k_NoGap.kit T.sb_NoTree_NoGap
  | 12, _ => T.k_NoTree.kit T.k_NoTree.sf
  | 13, _ => T.k_NoUndo.kit T.sb_NoTree_NoUndo
  | 14, _ => T.k_NoFit.kit T.sb_NoTree_NoFit
  | 15, _ => T.k_NoMaking.kit T.sb_NoTree_NoMaking
  | j + 16, h => absurd h (by omega)
theorem kit_13 (T : Tx K mg) : ∀ j, j < 16 → PySem.W.kitOne K (.ref (eC T 13)) (.ref (eC T j)) = some (13 == j)
  | 0, _ => T.k_NoKind.kit T.sb_NoUndo_NoKind
  | 1, _ => T.k_NoText.kit T.sb_NoUndo_NoText
  | 2, _ => T.k_NoStep.kit T.sb_NoUndo_NoStep
  | 3, _ => T.k_TooLong.kit T.sb_NoUndo_TooLong
  | 4, _ => T.k_TooMany.kit T.sb_NoUndo_TooMany
  | 5, _ => T.k_NoLong.kit T.sb_NoUndo_NoLong
  | 6, _ => T.k_NoNumber.kit T.sb_NoUndo_NoNumber
  | 7, _ => T.k_NoRow.kit T.sb_NoUndo_NoRow
  | 8, _ => T.k_NoName.kit T.sb_NoUndo_NoName
  | 9, _ => T.k_Twice.kit T.sb_NoUndo_Twice
  | 10, _ => T.k_Used.kit T.sb_NoUndo_Used
  | 11, _ => T.k_NoGap.kit T.sb_NoUndo_NoGap
  | 12, _ => T.k_NoTree.kit T.sb_NoUndo_NoTree
  | 13, _ => T.k_NoUndo.kit T.k_NoUndo.sf
  | 14, _ => T.k_NoFit.kit T.sb_NoUndo_NoFit
  | 15, _ => T.k_NoMaking.kit T.sb_NoUndo_NoMaking
  | j + 16, h => absurd h (by omega)
theorem kit_14 (T : Tx K mg) : ∀ j, j < 16 → PySem.W.kitOne K (.ref (eC T 14)) (.ref (eC T j)) = some (14 == j)
  | 0, _ => T.k_NoKind.kit T.sb_NoFit_NoKind
  | 1, _ => T.k_NoText.kit T.sb_NoFit_NoText
  | 2, _ => T.k_NoStep.kit T.sb_NoFit_NoStep
  | 3, _ => T.k_TooLong.kit T.sb_NoFit_TooLong
  | 4, _ => T.k_TooMany.kit T.sb_NoFit_TooMany
  | 5, _ => T.k_NoLong.kit T.sb_NoFit_NoLong
  | 6, _ => T.k_NoNumber.kit T.sb_NoFit_NoNumber
  | 7, _ => T.k_NoRow.kit T.sb_NoFit_NoRow
  | 8, _ => T.k_NoName.kit T.sb_NoFit_NoName
  | 9, _ => T.k_Twice.kit T.sb_NoFit_Twice
  | 10, _ => T.k_Used.kit T.sb_NoFit_Used
  | 11, _ => T.k_NoGap.kit T.sb_NoFit_NoGap
  | 12, _ => T.k_NoTree.kit T.sb_NoFit_NoTree
  | 13, _ => T.k_NoUndo.kit T.sb_NoFit_NoUndo
  | 14, _ => T.k_NoFit.kit T.k_NoFit.sf
  | 15, _ => T.k_NoMaking.kit T.sb_NoFit_NoMaking
  | j + 16, h => absurd h (by omega)
theorem kit_15 (T : Tx K mg) : ∀ j, j < 16 → PySem.W.kitOne K (.ref (eC T 15)) (.ref (eC T j)) = some (15 == j)
  | 0, _ => T.k_NoKind.kit T.sb_NoMaking_NoKind
  | 1, _ => T.k_NoText.kit T.sb_NoMaking_NoText
  | 2, _ => T.k_NoStep.kit T.sb_NoMaking_NoStep
  | 3, _ => T.k_TooLong.kit T.sb_NoMaking_TooLong
  | 4, _ => T.k_TooMany.kit T.sb_NoMaking_TooMany
  | 5, _ => T.k_NoLong.kit T.sb_NoMaking_NoLong
  | 6, _ => T.k_NoNumber.kit T.sb_NoMaking_NoNumber
  | 7, _ => T.k_NoRow.kit T.sb_NoMaking_NoRow
  | 8, _ => T.k_NoName.kit T.sb_NoMaking_NoName
  | 9, _ => T.k_Twice.kit T.sb_NoMaking_Twice
  | 10, _ => T.k_Used.kit T.sb_NoMaking_Used
  | 11, _ => T.k_NoGap.kit T.sb_NoMaking_NoGap
  | 12, _ => T.k_NoTree.kit T.sb_NoMaking_NoTree
  | 13, _ => T.k_NoUndo.kit T.sb_NoMaking_NoUndo
  | 14, _ => T.k_NoFit.kit T.sb_NoMaking_NoFit
  | 15, _ => T.k_NoMaking.kit T.k_NoMaking.sf
  | j + 16, h => absurd h (by omega)
theorem kit16 (T : Tx K mg) : ∀ n, n < 16 → ∀ j, j < 16 → PySem.W.kitOne K (.ref (eC T n)) (.ref (eC T j)) = some (n == j)
  | 0, _ => kit_0 T
  | 1, _ => kit_1 T
  | 2, _ => kit_2 T
  | 3, _ => kit_3 T
  | 4, _ => kit_4 T
  | 5, _ => kit_5 T
  | 6, _ => kit_6 T
  | 7, _ => kit_7 T
  | 8, _ => kit_8 T
  | 9, _ => kit_9 T
  | 10, _ => kit_10 T
  | 11, _ => kit_11 T
  | 12, _ => kit_12 T
  | 13, _ => kit_13 T
  | 14, _ => kit_14 T
  | 15, _ => kit_15 T
  | n + 16, h => absurd h (by omega)
theorem ec16 (T : Tx K mg) : ∀ n, n < 16 → ExcC K (eC T n)
  | 0, _ => T.ec_NoKind
  | 1, _ => T.ec_NoText
  | 2, _ => T.ec_NoStep
  | 3, _ => T.ec_TooLong
  | 4, _ => T.ec_TooMany
  | 5, _ => T.ec_NoLong
  | 6, _ => T.ec_NoNumber
  | 7, _ => T.ec_NoRow
  | 8, _ => T.ec_NoName
  | 9, _ => T.ec_Twice
  | 10, _ => T.ec_Used
  | 11, _ => T.ec_NoGap
  | 12, _ => T.ec_NoTree
  | 13, _ => T.ec_NoUndo
  | 14, _ => T.ec_NoFit
  | 15, _ => T.ec_NoMaking
  | n + 16, h => absurd h (by omega)
theorem ke16 (T : Tx K mg) : ∀ n, n < 16 → PySem.W.kitOne K (.ref (eC T n)) (.ref T.C_KindError) = some true
  | 0, _ => T.k_KindError.kit T.sb_NoKind_KindError
  | 1, _ => T.k_KindError.kit T.sb_NoText_KindError
  | 2, _ => T.k_KindError.kit T.sb_NoStep_KindError
  | 3, _ => T.k_KindError.kit T.sb_TooLong_KindError
  | 4, _ => T.k_KindError.kit T.sb_TooMany_KindError
  | 5, _ => T.k_KindError.kit T.sb_NoLong_KindError
  | 6, _ => T.k_KindError.kit T.sb_NoNumber_KindError
  | 7, _ => T.k_KindError.kit T.sb_NoRow_KindError
  | 8, _ => T.k_KindError.kit T.sb_NoName_KindError
  | 9, _ => T.k_KindError.kit T.sb_Twice_KindError
  | 10, _ => T.k_KindError.kit T.sb_Used_KindError
  | 11, _ => T.k_KindError.kit T.sb_NoGap_KindError
  | 12, _ => T.k_KindError.kit T.sb_NoTree_KindError
  | 13, _ => T.k_KindError.kit T.sb_NoUndo_KindError
  | 14, _ => T.k_KindError.kit T.sb_NoFit_KindError
  | 15, _ => T.k_KindError.kit T.sb_NoMaking_KindError
  | n + 16, h => absurd h (by omega)
theorem ve16 (T : Tx K mg) : ∀ n, n < 16 → PySem.W.kitOne K (.ref (eC T n)) (.type "ValueError") = some true
  | 0, _ => kit_VE T.sb_NoKind_ValueError
  | 1, _ => kit_VE T.sb_NoText_ValueError
  | 2, _ => kit_VE T.sb_NoStep_ValueError
  | 3, _ => kit_VE T.sb_TooLong_ValueError
  | 4, _ => kit_VE T.sb_TooMany_ValueError
  | 5, _ => kit_VE T.sb_NoLong_ValueError
  | 6, _ => kit_VE T.sb_NoNumber_ValueError
  | 7, _ => kit_VE T.sb_NoRow_ValueError
  | 8, _ => kit_VE T.sb_NoName_ValueError
  | 9, _ => kit_VE T.sb_Twice_ValueError
  | 10, _ => kit_VE T.sb_Used_ValueError
  | 11, _ => kit_VE T.sb_NoGap_ValueError
  | 12, _ => kit_VE T.sb_NoTree_ValueError
  | 13, _ => kit_VE T.sb_NoUndo_ValueError
  | 14, _ => kit_VE T.sb_NoFit_ValueError
  | 15, _ => kit_VE T.sb_NoMaking_ValueError
  | n + 16, h => absurd h (by omega)
theorem sub_no {O O' : Ow} {a : Addr} (s : Sub O O') (h : O' a = none) : O a = none := by
  cases e : O a with
  | none => rfl
  | some c => rw [s a c e] at h; cases h
theorem upd_keep {O : Ow} {a b : Addr} {c d : Cell} (h : updO O a c b = none) : updO (updO O a c) b d a = some c := by
  have : a ≠ b := fun e => by rw [← e, updO_same] at h; cases h
  rw [updO_ne this, updO_same]
theorem made4 {O : Ow} {a1 a2 a3 a4 : Addr} {c1 c2 c3 c4 : Cell} (h1 : O a1 = none) (h2 : updO O a1 c1 a2 = none) (h3 : updO (updO O a1 c1) a2 c2 a3 = none) (h4 : updO (updO (updO O a1 c1) a2 c2) a3 c3 a4 = none) :
    Sub O (updO (updO (updO (updO O a1 c1) a2 c2) a3 c3) a4 c4) ∧ (O a1 = none ∧ O a2 = none ∧ O a3 = none ∧ O a4 = none) ∧
    (updO (updO (updO (updO O a1 c1) a2 c2) a3 c3) a4 c4 a1 = some c1 ∧ updO (updO (updO (updO O a1 c1) a2 c2) a3 c3) a4 c4 a2 = some c2 ∧ updO (updO (updO (updO O a1 c1) a2 c2) a3 c3) a4 c4 a3 = some c3 ∧ updO (updO (updO (updO O a1 c1) a2 c2) a3 c3) a4 c4 a4 = some c4) := by
  have s1 : Sub O (updO O a1 c1) := sub_upd h1
  have s2 : Sub (updO O a1 c1) (updO (updO O a1 c1) a2 c2) := sub_upd h2
  have s3 : Sub (updO (updO O a1 c1) a2 c2) (updO (updO (updO O a1 c1) a2 c2) a3 c3) := sub_upd h3
  have s4 : Sub (updO (updO (updO O a1 c1) a2 c2) a3 c3) (updO (updO (updO (updO O a1 c1) a2 c2) a3 c3) a4 c4) := sub_upd h4
  exact ⟨s1.trans (s2.trans (s3.trans s4)), ⟨h1, sub_no s1 h2, sub_no (s1.trans s2) h3, sub_no (s1.trans (s2.trans s3)) h4⟩,
    (s2.trans (s3.trans s4)) _ _ updO_same, (s3.trans s4) _ _ updO_same, s4 _ _ updO_same, updO_same⟩
def spMade (T : Tx K mg) : DSp := fun ds O R _ => ∃ (n : Nat) (th : List Int), ds = [.int n, .lst (th.map .int)] ∧ n < 16 ∧ th.length ≤ 1000 ∧
  ∀ a O', Sub O O' → O a = none → O' a = some (.exc (.ref (eC T n)) (eFs th n)) → R (.ref a) O'
theorem ok_made (T : Tx K mg) : FO__law_made P w base T 3 (spMade T) := by
  refine fnd__law_made T (by omega) (by walk_at "len") ?_
  rintro ds O R RE ⟨n, th, rfl, hn, hth, hR⟩
  unfold g__law_made
  refine gSeq_step ?_
  walk_at "kf1"
  simp only [ap_fMkE, ap_fMkI]
  walk_at "kf1"
  split
  · intro a1 h1 a2 h2 a3 h3 a4 h4
    obtain ⟨s, ⟨n1, n2, n3, n4⟩, e1, e2, e3, e4⟩ := made4 h1 h2 h3 h4
    refine ⟨by decide, ?_⟩
    have hc : n = 0 ∨ n = 1 ∨ n = 2 ∨ n = 3 := by omega
    rcases hc with rfl | rfl | rfl | rfl
    · rw [rIx_l (d := .ref a1) rfl]; exact hR _ _ s n1 e1
    · rw [rIx_l (d := .ref a2) rfl]; exact hR _ _ s n2 e2
    · rw [rIx_l (d := .ref a3) rfl]; exact hR _ _ s n3 e3
    · rw [rIx_l (d := .ref a4) rfl]; exact hR _ _ s n4 e4
  · skip
    refine gSeq_step ?_
    walk_at "kf1"
    simp only [ap_fMkE, ap_fMkI]
    walk_at "kf1"
    split
    · intro a1 h1 a2 h2 a3 h3 a4 h4
      obtain ⟨s, ⟨n1, n2, n3, n4⟩, e1, e2, e3, e4⟩ := made4 h1 h2 h3 h4
      refine ⟨by decide, ?_⟩
      have hc : n = 4 ∨ n = 5 ∨ n = 6 ∨ n = 7 := by omega
      rcases hc with rfl | rfl | rfl | rfl
      · rw [rIx_l (d := .ref a1) rfl]; exact hR _ _ s n1 e1
      · rw [rIx_l (d := .ref a2) rfl]; exact hR _ _ s n2 e2
      · rw [rIx_l (d := .ref a3) rfl]; exact hR _ _ s n3 e3
      · rw [rIx_l (d := .ref a4) rfl]; exact hR _ _ s n4 e4
    · skip
      refine gSeq_step ?_
      walk_at "kf1"
      simp only [ap_fMkE, ap_fMkI]
      walk_at "kf1"
      split
      · intro a1 h1 a2 h2 a3 h3 a4 h4
        obtain ⟨s, ⟨n1, n2, n3, n4⟩, e1, e2, e3, e4⟩ := made4 h1 h2 h3 h4
        refine ⟨by decide, ?_⟩
        have hc : n = 8 ∨ n = 9 ∨ n = 10 ∨ n = 11 := by omega
        rcases hc with rfl | rfl | rfl | rfl
        · rw [rIx_l (d := .ref a1) rfl]; exact hR _ _ s n1 e1
        · rw [rIx_l (d := .ref a2) rfl]; exact hR _ _ s n2 e2
        · rw [rIx_l (d := .ref a3) rfl]; exact hR _ _ s n3 e3
        · rw [rIx_l (d := .ref a4) rfl]; exact hR _ _ s n4 e4
      · skip
        walk_at "kf1"
        try simp only [ap_fMkE, ap_fMkI]
        walk_at "kf1"
        intro a1 h1 a2 h2
        refine ⟨_, rfl, fun a3 h3 => ?_⟩
        rw [List.length_map]
        refine ⟨_, rfl, fun a4 h4 => ?_⟩
        obtain ⟨s, ⟨n1, n2, n3, n4⟩, e1, e2, e3, e4⟩ := made4 h1 h2 h3 h4
        refine ⟨by decide, ?_⟩
        have hc : n = 12 ∨ n = 13 ∨ n = 14 ∨ n = 15 := by omega
        rcases hc with rfl | rfl | rfl | rfl
        · rw [rIx_l (d := .ref a1) rfl]; exact hR _ _ s n1 e1
        · rw [rIx_l (d := .ref a2) rfl]; exact hR _ _ s n2 e2
        · rw [rIx_l (d := .ref a3) rfl]; exact hR _ _ s n3 e3
        · rw [rIx_l (d := .ref a4) rfl]; exact hR _ _ s n4 e4
def spKinds (T : Tx K mg) : DSp := fun ds O R _ => ∃ (a : Addr) (n : Nat) (fs : Option (List (Str × D))), ds = [.ref a] ∧ n < 16 ∧ O a = some (.exc (.ref (eC T n)) fs) ∧ R (.lst ((List.range 16).map fun j => D.bl (n == j))) O
theorem ok_kinds (T : Tx K mg) : FO__law_kinds P w base T 3 (spKinds T) := by
  refine fnd__law_kinds T (by walk_at "len") ?_
  rintro ds O R RE ⟨a, n, fs, rfl, hn, ha, hR⟩
  unfold g__law_kinds
  have q : ∀ (j : Nat) (hj : j < 16) {Q : VD}, Q (.bl (n == j)) O → rIsXD K [.ref a, .ref (eC T j)] O Q := fun j hj {Q} h => rIsXD_r ha (ec16 T n hn) (kit16 T n hn j hj) h
  refine gSeq_step ?_
  walk_at "kf1"
  refine q 0 (by decide) (q 1 (by decide) (q 2 (by decide) (q 3 (by decide) ?_)))
  walk_at "tg"
  refine gSeq_step ?_
  walk_at "kf1"
  refine q 4 (by decide) (q 5 (by decide) (q 6 (by decide) (q 7 (by decide) ?_)))
  walk_at "tg"
  try (refine ⟨by decide, ?_⟩)
  try (refine ⟨by decide, ?_⟩)
  refine gSeq_step ?_
  walk_at "kf1"
  refine q 8 (by decide) (q 9 (by decide) (q 10 (by decide) (q 11 (by decide) ?_)))
  walk_at "tg"
  try (refine ⟨by decide, ?_⟩)
  try (refine ⟨by decide, ?_⟩)
  walk_at "kf1"
  refine q 12 (by decide) (q 13 (by decide) (q 14 (by decide) (q 15 (by decide) ?_)))
  walk_at "tg"
  try (refine ⟨by decide, ?_⟩)
  try (refine ⟨by decide, ?_⟩)
  exact hR
def dBs (n : Nat) : List D := (List.range 16).map fun j => D.bl (n == j)
theorem isPys_bl : ∀ bs : List Bool, isPys (bs.map D.bl) = true
  | [] => rfl
  | b :: r => by simp [isPys, isPy, isPys_bl r]
theorem deqs_bl : ∀ bs : List Bool, deqs (bs.map D.bl) (bs.map D.bl) = true
  | [] => by rw [List.map_nil, deqs_nn]
  | b :: r => by rw [List.map_cons, deqs_cc, deqs_bl r]; cases b <;> rfl
theorem dps_bl : ∀ bs : List Bool, PyData.depthAll (toPys (bs.map D.bl)) = 0
  | [] => dpN
  | b :: r => by rw [List.map_cons, dpC, dpB, dps_bl r]; rfl
theorem rEq_bls {O : Ow} {neg : Bool} {Q : VD} (bs : List Bool) : rEqD neg (.lst (bs.map D.bl)) (.lst (bs.map D.bl)) O Q = Q (.bl (!neg)) O := by
  rw [rEq_d (by rw [deref_lst]; simp [isPy, isPys_bl]) (by rw [deref_lst]; simp [isPy, isPys_bl]) (by rw [deref_lst, dpL, dps_bl]; omega), deref_lst, deq_l, deqs_bl]
  cases neg <;> rfl
end
end Kf
namespace Kf
open PySem PySem.Spec L2
open PyProof.Rows hiding St
local macro_rules | `(tactic| walk_at "kf") => `(tactic| simp (config := { failIfUnchanged := false }) only [startD, ap_fiEnumT, asT1_t, ap_fKGet, asStr_s, ap_fKIn, ap_fKIx, ap_gAsgL, rUnl_l, ap_fiRng3, asR3_i, rSplitO_s, ap_fOrL, rOrL_l, ap_fLcK, ap_gForK, ap_fMaxD, rMaxD_l, rMaxL_l, ap_fCallXD, ap_gForE, asLE_l, ap_fFrz, ap_fDicO, ap_fDGet, ap_fDGet1, ap_fDGet2, ap_gDPut, ap_fIsiT, ap_gForR, rRep_l, isT_i, isT_s, isT_b, isT_n, isT_t, isT_l, ap_gSeq, ap_gIf, ap_gRet, ap_gNext, ap_gSet, ap_gAsg, ap_gDrop, ap_gRetF, ap_gRetN, ap_gFor, ap_gSetIx, ap_gBreak, ap_fRev, ap_fiRevR, asIR_i, rRev_l, ap_fCallX, ap_gRaise, ap_gTry, ap_gTryAs, ap_gNever, ap_fEdic, ap_fTest, ap_fOp, ap_fVar, envGet_s, patGet_s, ap_fC, ap_fCB, ap_fCons, ap_fNil, ap_fCall, ap_fAnd, ap_fOr, ap_fNot, ap_fAndV, ap_fOrV, ap_fNotV, ap_fIf, ap_fTup, ap_fLst, ap_fLstO, ap_fChain, ap_fUn, ap_fBM, ap_fBM0, ap_fPool, rPool_i, ap_fSl, ap_fPart, ap_fNoPart, asI_i, rSl_l, ap_fiRng1, ap_fiRng2, ap_fiList, ap_fiTup, ap_fiStr, ap_fiEnum, ap_fiZip, ap_fiRev, asL_l, asT_t, asSg_s, asR1_i, asR2_i, asL1_l, asL2_l, ap_fLc, ap_fLcO, ap_fYes, wipeD, lcD, isi_i_int, isi_i_bool, isi_i_str, isi_i_tuple, isi_i_list, isi_i_dict, isi_b_int, isi_b_bool, isi_b_str, isi_b_tuple, isi_b_list, isi_b_dict, isi_s_int, isi_s_bool, isi_s_str, isi_s_tuple, isi_s_list, isi_s_dict, isi_t_int, isi_t_bool, isi_t_str, isi_t_tuple, isi_t_list, isi_t_dict, isi_l_int, isi_l_bool, isi_l_str, isi_l_tuple, isi_l_list, isi_l_dict, isi_n_int, isi_n_bool, isi_n_str, isi_n_tuple, isi_n_list, isi_n_dict, isi_d_int, isi_d_bool, isi_d_str, isi_d_tuple, isi_d_list, isi_d_dict,
  deref_tup, deref_lst, deref_int, deref_str, deref_bl, deref_non, deref_scr, rLt_i, rLt_s, rLe_i, rLe_s, rInts_i, rInts0_i, rAdd_i, rAdd_s, rAdd_l, rAdd_t, rCatO_l, rNeg_i, rLen_t, rLen_l, rLen_c, rLen_s, rMax_i, rMin_i, rInt_i, rInt_b, rDivmod_i, ap_gAug, rStr_i, rList_l, rList_t, rListO_l, rListO_t, rTup_l, rTup_t,
  rIx_t0, rIx_t1, rIx_t2, rIx_t3, rIx_l0, rIx_l1, rIx_l2, rIsN_x, isNon_t, isNon_n, isNon_i, isNon_s, isNon_l, rEq_i, rEq_b, rEq_i2, rEq_b2, rJoin_m, rSplit_s, tyOk_l, tyOk_s, patD_nm, patD_tp, patDs_nil, patDs_cons, Option.bind_some, notX, notX',
  List.map_cons, List.map_nil, List.length_cons, List.length_nil, List.cons_append, List.nil_append, List.append_nil, List.replicate, List.getElem?_cons_zero, List.getElem?_cons_succ, List.set_cons_zero, List.set_cons_succ, updO_same, updO_updO,
  Nat.reduceSub, Nat.reduceAdd, Nat.reduceLeDiff, Nat.zero_add, Int.cast_ofNat_Int, Int.natCast_zero, Int.natCast_one, Int.reduceLT, Int.reduceLE, Int.reduceEq, Int.reduceAdd, Int.reduceSub, Int.reduceNeg, decide_true, decide_false, if_true, if_false, Bool.false_eq_true, eq_self, reduceIte, Bool.true_eq_false, decide_eq_true_eq, Bool.not_true, Bool.not_false, Bool.not_eq_true', decide_eq_false_iff_not, exists_eq_left', exists_eq_left, D.bl.injEq, true_and, and_true, not_true_eq_false, not_false_eq_true])
local macro_rules | `(tactic| walk_at "len") => `(tactic| (intro ds O R RE h; first | (obtain ⟨e, _⟩ := h; subst e; rfl) | (obtain ⟨_, e, _⟩ := h; subst e; rfl) | (obtain ⟨_, _, e, _⟩ := h; subst e; rfl) | (obtain ⟨_, _, _, e, _⟩ := h; subst e; rfl) | (obtain ⟨_, _, _, _, e, _⟩ := h; subst e; rfl) | (obtain ⟨_, _, _, _, _, e, _⟩ := h; subst e; rfl) | (obtain ⟨_, _, _, _, _, _, e, _⟩ := h; subst e; rfl) | (obtain ⟨_, _, _, _, _, _, _, e, _⟩ := h; subst e; rfl) | (obtain ⟨_, _, _, _, _, _, _, _, e, _⟩ := h; subst e; rfl) | (obtain ⟨_, _, _, _, _, _, _, _, _, e, _⟩ := h; subst e; rfl)))
local macro_rules | `(tactic| walk_at "kf1") => `(tactic| simp (config := { failIfUnchanged := false }) only [startD, ap_fiEnumT, asT1_t, ap_fKGet, asStr_s, ap_fKIn, ap_fKIx, ap_gAsgL, rUnl_l, ap_fiRng3, asR3_i, rSplitO_s, ap_fOrL, rOrL_l, ap_fLcK, ap_gForK, ap_fMaxD, rMaxD_l, rMaxL_l, ap_fCallXD, ap_gForE, asLE_l, ap_fFrz, ap_fDicO, ap_fDGet, ap_fDGet1, ap_fDGet2, ap_gDPut, ap_fIsiT, ap_gForR, rRep_l, isT_i, isT_s, isT_b, isT_n, isT_t, isT_l, ap_gIf, ap_gRet, ap_gNext, ap_gSet, ap_gAsg, ap_gDrop, ap_gRetF, ap_gRetN, ap_gFor, ap_gSetIx, ap_gBreak, ap_fRev, ap_fiRevR, asIR_i, rRev_l, ap_fCallX, ap_gRaise, ap_gTry, ap_gTryAs, ap_gNever, ap_fEdic, ap_fTest, ap_fOp, ap_fVar, envGet_s, patGet_s, ap_fC, ap_fCB, ap_fCons, ap_fNil, ap_fCall, ap_fAnd, ap_fOr, ap_fNot, ap_fAndV, ap_fOrV, ap_fNotV, ap_fIf, ap_fTup, ap_fLst, ap_fLstO, ap_fChain, ap_fUn, ap_fBM, ap_fBM0, ap_fPool, rPool_i, ap_fSl, ap_fPart, ap_fNoPart, asI_i, rSl_l, ap_fiRng1, ap_fiRng2, ap_fiList, ap_fiTup, ap_fiStr, ap_fiEnum, ap_fiZip, ap_fiRev, asL_l, asT_t, asSg_s, asR1_i, asR2_i, asL1_l, asL2_l, ap_fLc, ap_fLcO, ap_fYes, wipeD, lcD, isi_i_int, isi_i_bool, isi_i_str, isi_i_tuple, isi_i_list, isi_i_dict, isi_b_int, isi_b_bool, isi_b_str, isi_b_tuple, isi_b_list, isi_b_dict, isi_s_int, isi_s_bool, isi_s_str, isi_s_tuple, isi_s_list, isi_s_dict, isi_t_int, isi_t_bool, isi_t_str, isi_t_tuple, isi_t_list, isi_t_dict, isi_l_int, isi_l_bool, isi_l_str, isi_l_tuple, isi_l_list, isi_l_dict, isi_n_int, isi_n_bool, isi_n_str, isi_n_tuple, isi_n_list, isi_n_dict, isi_d_int, isi_d_bool, isi_d_str, isi_d_tuple, isi_d_list, isi_d_dict,
  deref_tup, deref_lst, deref_int, deref_str, deref_bl, deref_non, deref_scr, rLt_i, rLt_s, rLe_i, rLe_s, rInts_i, rInts0_i, rAdd_i, rAdd_s, rAdd_l, rAdd_t, rCatO_l, rNeg_i, rLen_t, rLen_l, rLen_c, rLen_s, rMax_i, rMin_i, rInt_i, rInt_b, rDivmod_i, ap_gAug, rStr_i, rList_l, rList_t, rListO_l, rListO_t, rTup_l, rTup_t,
  rIx_t0, rIx_t1, rIx_t2, rIx_t3, rIx_l0, rIx_l1, rIx_l2, rIsN_x, isNon_t, isNon_n, isNon_i, isNon_s, isNon_l, rEq_i, rEq_b, rEq_i2, rEq_b2, rJoin_m, rSplit_s, tyOk_l, tyOk_s, patD_nm, patD_tp, patDs_nil, patDs_cons, Option.bind_some, notX, notX',
  List.map_cons, List.map_nil, List.length_cons, List.length_nil, List.cons_append, List.nil_append, List.append_nil, List.replicate, List.getElem?_cons_zero, List.getElem?_cons_succ, List.set_cons_zero, List.set_cons_succ, updO_same, updO_updO,
  Nat.reduceSub, Nat.reduceAdd, Nat.reduceLeDiff, Nat.zero_add, Int.cast_ofNat_Int, Int.natCast_zero, Int.natCast_one, Int.reduceLT, Int.reduceLE, Int.reduceEq, Int.reduceAdd, Int.reduceSub, Int.reduceNeg, decide_true, decide_false, if_true, if_false, Bool.false_eq_true, eq_self, reduceIte, Bool.true_eq_false, decide_eq_true_eq, Bool.not_true, Bool.not_false, Bool.not_eq_true', decide_eq_false_iff_not, exists_eq_left', exists_eq_left, D.bl.injEq, true_and, and_true, not_true_eq_false, not_false_eq_true])
section
variable {P : Program} {w : World} {K : PySem.W.Frag} {mg : Str → Option Value} {base : Heap}
local macro_rules | `(tactic| walk_at "tg") => `(tactic| simp (config := { failIfUnchanged := false }) only [te_name_take, te_name_give, te_name_pair, te_name_first, te_name_second, te_name_to, te_name_both, te_name_one, te_name_mark, te_name_name, te_name_thing, te_name_at, te_thing_take, te_thing_give, te_thing_pair, te_thing_first, te_thing_second, te_thing_to, te_thing_both, te_thing_one, te_thing_mark, te_thing_name, te_thing_thing, te_thing_at, te_take_take, te_take_give, te_take_pair, te_take_first, te_take_second, te_take_to, te_take_both, te_take_one, te_take_mark, te_take_name, te_take_thing, te_take_at, te_give_take, te_give_give, te_give_pair, te_give_first, te_give_second, te_give_to, te_give_both, te_give_one, te_give_mark, te_give_name, te_give_thing, te_give_at, te_pair_take, te_pair_give, te_pair_pair, te_pair_first, te_pair_second, te_pair_to, te_pair_both, te_pair_one, te_pair_mark, te_pair_name, te_pair_thing, te_pair_at, te_first_take, te_first_give, te_first_pair, te_first_first, te_first_second, te_first_to, te_first_both, te_first_one, te_first_mark, te_first_name, te_first_thing, te_first_at, te_second_take, te_second_give, te_second_pair, te_second_first, te_second_second, te_second_to, te_second_both, te_second_one, te_second_mark, te_second_name, te_second_thing, te_second_at, te_mark_take, te_mark_give, te_mark_pair, te_mark_first, te_mark_second, te_mark_to, te_mark_both, te_mark_one, te_mark_mark, te_mark_name, te_mark_thing, te_mark_at, te_one_take, te_one_give, te_one_pair, te_one_first, te_one_second, te_one_to, te_one_both, te_one_one, te_one_mark, te_one_name, te_one_thing, te_one_at, te_to_take, te_to_give, te_to_pair, te_to_first, te_to_second, te_to_to, te_to_both, te_to_one, te_to_mark, te_to_name, te_to_thing, te_to_at, te_both_take, te_both_give, te_both_pair, te_both_first, te_both_second, te_both_to, te_both_both, te_both_one, te_both_mark, te_both_name, te_both_thing, te_both_at, te_at_take, te_at_give, te_at_pair, te_at_first, te_at_second, te_at_to, te_at_both, te_at_one, te_at_mark, te_at_name, te_at_thing, te_at_at, ti4_name, ti4_thing, ti4_take, ti4_give, ti4_pair, ti4_first, ti4_second, ti2_name, ti2_thing, ti2_take, ti2_give, ti2_pair, ti2_first, ti2_second, szT_0, szT_1, szT_2, szT_3, szT_4, szT_5, szT_6, szT_7, szT_8, szT_9, szT_10, szT_11, szT_12, Bool.not_true, Bool.not_false, true_and])
theorem ok_law (T : Tx K mg) : FO_law P w base T 10 (lawSp 63) := by
  refine fnd_law T (ok_pool T.n__law_pool T.m_len) (ok_take T.n__law_take) (fnUp (ok_made T) (by omega)) (fnUp (ok_kinds T) (by omega)) (by walk_at "len") ?_
  rintro ds O R RE ⟨ns, rfl, hl, hR⟩
  unfold g_law
  refine gSeq_step ?_
  walk_at "kf1"
  refine ⟨ns, 0, rfl, by omega, by omega, fun pa hpa => ?_⟩
  try dsimp only
  refine gSeq_step ?_
  walk_at "kf1"
  refine ⟨by omega, by omega, ?_⟩
  rw [rangeD_map, show Int.toNat 16 = 16 from rfl]
  refine forA_ix _ (fun pre _ ρ O' => ∃ x2 x3 x4 x5 x6, ρ = [some (.scr ns), some (.ref pa), x2, x3, x4, x5, x6] ∧ O' pa = some .pool) _ [] _ _ ⟨_, _, _, _, _, rfl, updO_same⟩ ?_ ?_
  · rintro ρ O' ⟨x2, x3, x4, x5, x6, rfl, hp⟩
    walk_at "kf1"
    exact hR _
  · rintro pre n rest e ρ O' ⟨x2, x3, x4, x5, x6, rfl, hp⟩ N hN
    have hn : n < 16 := by
      have : n ∈ List.range 16 := by
        have h : n ∈ ([] : List Nat) ++ List.range 16 := by rw [show ([] : List Nat) ++ List.range 16 = pre ++ n :: rest from e]; simp
        simpa using h
      exact List.mem_range.mp this
    walk_at "kf1"
    refine gSeq_step ?_
    walk_at "kf1"
    refine take_of hp (by decide) (by decide) fun m hm0 hm1 => ?_
    walk_at "kf1"
    refine ⟨by omega, by omega, ?_⟩
    rw [rangeD_map]
    refine lcA_all (β := Int) (fun _ => True) (fun i : Nat => D.int (0 + (i : Int))) D.int (List.range m.toNat) _ _ (sz_small (by rw [List.length_range, List.length_nil]; omega)) ?_ ?_
    · intro u hu Q' hQ'
      walk_at "kf1"
      exact take_of hp (by decide) (by decide) fun r2 h0 h1 => hQ' r2 trivial
    intro th hpl _
    rw [List.length_range] at hpl
    rw [List.nil_append]
    refine gSeq_step ?_
    walk_at "kf1"
    refine ⟨n, th, by rw [Int.zero_add], hn, by omega, fun a O2 hs ha ha2 => ?_⟩
    have hp2 := hs _ _ hp
    try dsimp only
    refine gSeq_step ?_
    walk_at "kf1"
    refine rIsXD_r ha2 (ec16 T n hn) (ke16 T n hn) ?_
    walk_at "kf1"
    refine rIsXD_y ha2 (ec16 T n hn) (ve16 T n hn) ?_
    walk_at "kf1"
    refine gSeq_step ?_
    walk_at "kf1"
    refine ⟨a, n, _, rfl, hn, ha2, ?_⟩
    try dsimp only
    walk_at "kf1"
    refine ⟨by omega, by omega, ?_⟩
    rw [rangeD_map, show Int.toNat 16 = 16 from rfl]
    refine lcA_map (fun i : Nat => D.int (0 + (i : Int))) (fun j => D.bl (n == j)) (List.range 16) [] _ (sz_small (by simp)) ?_ ?_
    · intro j hj Q' hQ'
      have ej : decide (0 + (j : Int) = 0 + (n : Int)) = (n == j) := by
        rw [Bool.eq_iff_iff, decide_eq_true_iff, beq_iff_eq]; omega
      walk_at "kf1"
      rw [← ej] at hQ'
      exact hQ'
    rw [List.nil_append, show ((List.range 16).map fun j => D.bl (n == j)) = ((List.range 16).map fun j => n == j).map D.bl from by rw [List.map_map]; rfl, rEq_bls]
    walk_at "kf1"
    have fin : ∀ x6, N [some (.scr ns), some (.ref pa), some (.int (0 + (n : Int))), some (.lst (th.map .int)), some (.ref a), x5, x6] O2 := fun x6 => hN _ _ ⟨_, _, _, _, _, rfl, hp2⟩
    by_cases h14 : n = 14
    · subst h14
      rw [if_pos (by decide)]
      rw [ap_fXf]
      walk_at "kf1"
      refine ⟨a, T.C_NoFit, [("place", .lst (th.map .int))], .lst (th.map .int), rfl, ha2, by simp [List.lookup], T.ec_NoFit, T.xi_NoFit.no, ?_⟩
      try dsimp only
      rw [show (D.lst (th.map D.int)) = dI th from rfl, rEq_ints]
      walk_at "kf1"
      exact fin _
    · rw [if_neg (by omega)]
      by_cases h15 : n = 15
      · subst h15
        rw [if_pos (by decide)]
        rw [ap_fXf]
        walk_at "kf1"
        refine ⟨a, T.C_NoMaking, [("at", .int th.length)], .int th.length, rfl, ha2, by simp [List.lookup], T.ec_NoMaking, T.xi_NoMaking.no, ?_⟩
        try dsimp only
        rw [List.length_map]
        walk_at "kf1"
        exact fin _
      · rw [if_neg (by omega)]
        exact fin _
end
theorem fn_mk {K : PySem.W.Frag} {h : Heap} {mg : Str → Option Value} {x : Str} {st : Stmt} {ps : List Str} {f : Addr} {oc : Value} {od an : Option Addr} {osl : Array (Option Value)} {kV doc pm cdv ct : Value} (X : K.In h) (G : h.Ns mainGlobals mg)
    (a : PySem.W.nsIn K mainGlobals x = some (some (.ref f))) (l : K.lookup f = some ⟨oc, od, .func (PySem.W.fnOf x x (defArgs st) (defBody st) (defScope st) .none kV doc pm an cdv ct), osl⟩) (c : PySem.W.codeIn K cdv x = true) (k : PySem.W.keepIn K (.ref f) = true)
    (b : ∀ (kV doc pm : Value) (an : Option Addr) (cdv ct : Value) (us : List Value), us.length = ps.length → bindArgs (PySem.W.fnOf x x (defArgs st) (defBody st) (defScope st) .none kV doc pm an cdv ct) ⟨us, []⟩ = pure (ps.zip us)) :
    Fn K mg x st ps f (PySem.W.fnOf x x (defArgs st) (defBody st) (defScope st) .none kV doc pm an cdv ct) := ⟨fun_mk l c k, PySem.W.mg_of X G a, (fun_mk l c k).binds b⟩
set_option maxHeartbeats 0 in
theorem all_mk {l : PySem.W.OpenLaw} {w : World} {K : PySem.W.Frag} {h : Heap} {mg : Str → Option Value} {fa : Addr} (X : K.In h) (G : h.Ns mainGlobals mg) (hfa : mg "law" = some (.ref fa))
    {f__law_pool : Addr} {oc__law_pool kV__law_pool dc__law_pool pm__law_pool cd__law_pool ct__law_pool : Value} {od__law_pool an__law_pool : Option Addr} {sl__law_pool : Array (Option Value)}
    (a__law_pool : PySem.W.nsIn K mainGlobals "_law_pool" = some (some (.ref f__law_pool)))
    (l__law_pool : K.lookup f__law_pool = some ⟨oc__law_pool, od__law_pool, .func (PySem.W.fnOf "_law_pool" "_law_pool" (defArgs s__law_pool) (defBody s__law_pool) (defScope s__law_pool) .none kV__law_pool dc__law_pool pm__law_pool an__law_pool cd__law_pool ct__law_pool), sl__law_pool⟩)
    (c__law_pool : PySem.W.codeIn K cd__law_pool "_law_pool" = true) (k__law_pool : PySem.W.keepIn K (.ref f__law_pool) = true)
    {f__law_take : Addr} {oc__law_take kV__law_take dc__law_take pm__law_take cd__law_take ct__law_take : Value} {od__law_take an__law_take : Option Addr} {sl__law_take : Array (Option Value)}
    (a__law_take : PySem.W.nsIn K mainGlobals "_law_take" = some (some (.ref f__law_take)))
    (l__law_take : K.lookup f__law_take = some ⟨oc__law_take, od__law_take, .func (PySem.W.fnOf "_law_take" "_law_take" (defArgs s__law_take) (defBody s__law_take) (defScope s__law_take) .none kV__law_take dc__law_take pm__law_take an__law_take cd__law_take ct__law_take), sl__law_take⟩)
    (c__law_take : PySem.W.codeIn K cd__law_take "_law_take" = true) (k__law_take : PySem.W.keepIn K (.ref f__law_take) = true)
    {f__law_made : Addr} {oc__law_made kV__law_made dc__law_made pm__law_made cd__law_made ct__law_made : Value} {od__law_made an__law_made : Option Addr} {sl__law_made : Array (Option Value)}
    (a__law_made : PySem.W.nsIn K mainGlobals "_law_made" = some (some (.ref f__law_made)))
    (l__law_made : K.lookup f__law_made = some ⟨oc__law_made, od__law_made, .func (PySem.W.fnOf "_law_made" "_law_made" (defArgs s__law_made) (defBody s__law_made) (defScope s__law_made) .none kV__law_made dc__law_made pm__law_made an__law_made cd__law_made ct__law_made), sl__law_made⟩)
    (c__law_made : PySem.W.codeIn K cd__law_made "_law_made" = true) (k__law_made : PySem.W.keepIn K (.ref f__law_made) = true)
    {f__law_kinds : Addr} {oc__law_kinds kV__law_kinds dc__law_kinds pm__law_kinds cd__law_kinds ct__law_kinds : Value} {od__law_kinds an__law_kinds : Option Addr} {sl__law_kinds : Array (Option Value)}
    (a__law_kinds : PySem.W.nsIn K mainGlobals "_law_kinds" = some (some (.ref f__law_kinds)))
    (l__law_kinds : K.lookup f__law_kinds = some ⟨oc__law_kinds, od__law_kinds, .func (PySem.W.fnOf "_law_kinds" "_law_kinds" (defArgs s__law_kinds) (defBody s__law_kinds) (defScope s__law_kinds) .none kV__law_kinds dc__law_kinds pm__law_kinds an__law_kinds cd__law_kinds ct__law_kinds), sl__law_kinds⟩)
    (c__law_kinds : PySem.W.codeIn K cd__law_kinds "_law_kinds" = true) (k__law_kinds : PySem.W.keepIn K (.ref f__law_kinds) = true)
    {f_law : Addr} {oc_law kV_law dc_law pm_law cd_law ct_law : Value} {od_law an_law : Option Addr} {sl_law : Array (Option Value)}
    (a_law : PySem.W.nsIn K mainGlobals "law" = some (some (.ref f_law)))
    (l_law : K.lookup f_law = some ⟨oc_law, od_law, .func (PySem.W.fnOf "law" "law" (defArgs s_law) (defBody s_law) (defScope s_law) .none kV_law dc_law pm_law an_law cd_law ct_law), sl_law⟩)
    (c_law : PySem.W.codeIn K cd_law "law" = true) (k_law : PySem.W.keepIn K (.ref f_law) = true)
    (z_len : PySem.W.nsIn K mainGlobals "len" = some none)
    (z_isinstance : PySem.W.nsIn K mainGlobals "isinstance" = some none)
    (z_range : PySem.W.nsIn K mainGlobals "range" = some none)
    (z_ValueError : PySem.W.nsIn K mainGlobals "ValueError" = some none)
    {C_NoKind : Addr} (ka_NoKind : PySem.W.nsIn K mainGlobals "NoKind" = some (some (.ref C_NoKind))) (kb_NoKind : PySem.W.subIn K (.ref C_NoKind) (.type "BaseException") = some true) (kt_NoKind : PySem.W.typeIn K (.ref C_NoKind) = some (.type "type"))
    {C_NoText : Addr} (ka_NoText : PySem.W.nsIn K mainGlobals "NoText" = some (some (.ref C_NoText))) (kb_NoText : PySem.W.subIn K (.ref C_NoText) (.type "BaseException") = some true) (kt_NoText : PySem.W.typeIn K (.ref C_NoText) = some (.type "type"))
    {C_NoStep : Addr} (ka_NoStep : PySem.W.nsIn K mainGlobals "NoStep" = some (some (.ref C_NoStep))) (kb_NoStep : PySem.W.subIn K (.ref C_NoStep) (.type "BaseException") = some true) (kt_NoStep : PySem.W.typeIn K (.ref C_NoStep) = some (.type "type"))
    {C_TooLong : Addr} (ka_TooLong : PySem.W.nsIn K mainGlobals "TooLong" = some (some (.ref C_TooLong))) (kb_TooLong : PySem.W.subIn K (.ref C_TooLong) (.type "BaseException") = some true) (kt_TooLong : PySem.W.typeIn K (.ref C_TooLong) = some (.type "type"))
    {C_TooMany : Addr} (ka_TooMany : PySem.W.nsIn K mainGlobals "TooMany" = some (some (.ref C_TooMany))) (kb_TooMany : PySem.W.subIn K (.ref C_TooMany) (.type "BaseException") = some true) (kt_TooMany : PySem.W.typeIn K (.ref C_TooMany) = some (.type "type"))
    {C_NoLong : Addr} (ka_NoLong : PySem.W.nsIn K mainGlobals "NoLong" = some (some (.ref C_NoLong))) (kb_NoLong : PySem.W.subIn K (.ref C_NoLong) (.type "BaseException") = some true) (kt_NoLong : PySem.W.typeIn K (.ref C_NoLong) = some (.type "type"))
    {C_NoNumber : Addr} (ka_NoNumber : PySem.W.nsIn K mainGlobals "NoNumber" = some (some (.ref C_NoNumber))) (kb_NoNumber : PySem.W.subIn K (.ref C_NoNumber) (.type "BaseException") = some true) (kt_NoNumber : PySem.W.typeIn K (.ref C_NoNumber) = some (.type "type"))
    {C_NoRow : Addr} (ka_NoRow : PySem.W.nsIn K mainGlobals "NoRow" = some (some (.ref C_NoRow))) (kb_NoRow : PySem.W.subIn K (.ref C_NoRow) (.type "BaseException") = some true) (kt_NoRow : PySem.W.typeIn K (.ref C_NoRow) = some (.type "type"))
    {C_NoName : Addr} (ka_NoName : PySem.W.nsIn K mainGlobals "NoName" = some (some (.ref C_NoName))) (kb_NoName : PySem.W.subIn K (.ref C_NoName) (.type "BaseException") = some true) (kt_NoName : PySem.W.typeIn K (.ref C_NoName) = some (.type "type"))
    {C_Twice : Addr} (ka_Twice : PySem.W.nsIn K mainGlobals "Twice" = some (some (.ref C_Twice))) (kb_Twice : PySem.W.subIn K (.ref C_Twice) (.type "BaseException") = some true) (kt_Twice : PySem.W.typeIn K (.ref C_Twice) = some (.type "type"))
    {C_Used : Addr} (ka_Used : PySem.W.nsIn K mainGlobals "Used" = some (some (.ref C_Used))) (kb_Used : PySem.W.subIn K (.ref C_Used) (.type "BaseException") = some true) (kt_Used : PySem.W.typeIn K (.ref C_Used) = some (.type "type"))
    {C_NoGap : Addr} (ka_NoGap : PySem.W.nsIn K mainGlobals "NoGap" = some (some (.ref C_NoGap))) (kb_NoGap : PySem.W.subIn K (.ref C_NoGap) (.type "BaseException") = some true) (kt_NoGap : PySem.W.typeIn K (.ref C_NoGap) = some (.type "type"))
    {C_NoTree : Addr} (ka_NoTree : PySem.W.nsIn K mainGlobals "NoTree" = some (some (.ref C_NoTree))) (kb_NoTree : PySem.W.subIn K (.ref C_NoTree) (.type "BaseException") = some true) (kt_NoTree : PySem.W.typeIn K (.ref C_NoTree) = some (.type "type"))
    {C_NoUndo : Addr} (ka_NoUndo : PySem.W.nsIn K mainGlobals "NoUndo" = some (some (.ref C_NoUndo))) (kb_NoUndo : PySem.W.subIn K (.ref C_NoUndo) (.type "BaseException") = some true) (kt_NoUndo : PySem.W.typeIn K (.ref C_NoUndo) = some (.type "type"))
    {C_NoFit : Addr} (ka_NoFit : PySem.W.nsIn K mainGlobals "NoFit" = some (some (.ref C_NoFit))) (kb_NoFit : PySem.W.subIn K (.ref C_NoFit) (.type "BaseException") = some true) (kt_NoFit : PySem.W.typeIn K (.ref C_NoFit) = some (.type "type"))
    {C_NoMaking : Addr} (ka_NoMaking : PySem.W.nsIn K mainGlobals "NoMaking" = some (some (.ref C_NoMaking))) (kb_NoMaking : PySem.W.subIn K (.ref C_NoMaking) (.type "BaseException") = some true) (kt_NoMaking : PySem.W.typeIn K (.ref C_NoMaking) = some (.type "type"))
    {C_KindError : Addr} (ka_KindError : PySem.W.nsIn K mainGlobals "KindError" = some (some (.ref C_KindError))) (kb_KindError : PySem.W.subIn K (.ref C_KindError) (.type "BaseException") = some true) (kt_KindError : PySem.W.typeIn K (.ref C_KindError) = some (.type "type"))
    (kd_NoKind : PySem.W.hasDictIn K C_NoKind = true) (kf_NoKind : PySem.W.subIn K (.ref C_NoKind) (.ref C_NoKind) = some true)
    (kd_NoText : PySem.W.hasDictIn K C_NoText = true) (kf_NoText : PySem.W.subIn K (.ref C_NoText) (.ref C_NoText) = some true)
    (kd_NoStep : PySem.W.hasDictIn K C_NoStep = true) (kf_NoStep : PySem.W.subIn K (.ref C_NoStep) (.ref C_NoStep) = some true)
    (kd_TooLong : PySem.W.hasDictIn K C_TooLong = true) (kf_TooLong : PySem.W.subIn K (.ref C_TooLong) (.ref C_TooLong) = some true)
    (kd_TooMany : PySem.W.hasDictIn K C_TooMany = true) (kf_TooMany : PySem.W.subIn K (.ref C_TooMany) (.ref C_TooMany) = some true)
    (kd_NoLong : PySem.W.hasDictIn K C_NoLong = true) (kf_NoLong : PySem.W.subIn K (.ref C_NoLong) (.ref C_NoLong) = some true)
    (kd_NoNumber : PySem.W.hasDictIn K C_NoNumber = true) (kf_NoNumber : PySem.W.subIn K (.ref C_NoNumber) (.ref C_NoNumber) = some true)
    (kd_NoRow : PySem.W.hasDictIn K C_NoRow = true) (kf_NoRow : PySem.W.subIn K (.ref C_NoRow) (.ref C_NoRow) = some true)
    (kd_NoName : PySem.W.hasDictIn K C_NoName = true) (kf_NoName : PySem.W.subIn K (.ref C_NoName) (.ref C_NoName) = some true)
    (kd_Twice : PySem.W.hasDictIn K C_Twice = true) (kf_Twice : PySem.W.subIn K (.ref C_Twice) (.ref C_Twice) = some true)
    (kd_Used : PySem.W.hasDictIn K C_Used = true) (kf_Used : PySem.W.subIn K (.ref C_Used) (.ref C_Used) = some true)
    (kd_NoGap : PySem.W.hasDictIn K C_NoGap = true) (kf_NoGap : PySem.W.subIn K (.ref C_NoGap) (.ref C_NoGap) = some true)
    (kd_NoTree : PySem.W.hasDictIn K C_NoTree = true) (kf_NoTree : PySem.W.subIn K (.ref C_NoTree) (.ref C_NoTree) = some true)
    (kd_NoUndo : PySem.W.hasDictIn K C_NoUndo = true) (kf_NoUndo : PySem.W.subIn K (.ref C_NoUndo) (.ref C_NoUndo) = some true)
    (kd_NoFit : PySem.W.hasDictIn K C_NoFit = true) (kf_NoFit : PySem.W.subIn K (.ref C_NoFit) (.ref C_NoFit) = some true)
    (kd_NoMaking : PySem.W.hasDictIn K C_NoMaking = true) (kf_NoMaking : PySem.W.subIn K (.ref C_NoMaking) (.ref C_NoMaking) = some true)
    (kd_KindError : PySem.W.hasDictIn K C_KindError = true) (kf_KindError : PySem.W.subIn K (.ref C_KindError) (.ref C_KindError) = some true)
    (kk_NoKind : PySem.W.keepIn K (.ref C_NoKind) = true) (kx_NoKind : PySem.W.excIn K C_NoKind [.type "ValueError", .type "Exception", .type "BaseException", .type "object"] "ValueError.__new__" = true)
    (kk_NoText : PySem.W.keepIn K (.ref C_NoText) = true) (kx_NoText : PySem.W.excIn K C_NoText [.type "ValueError", .type "Exception", .type "BaseException", .type "object"] "ValueError.__new__" = true)
    (kk_NoStep : PySem.W.keepIn K (.ref C_NoStep) = true) (kx_NoStep : PySem.W.excIn K C_NoStep [.type "ValueError", .type "Exception", .type "BaseException", .type "object"] "ValueError.__new__" = true)
    (kk_TooLong : PySem.W.keepIn K (.ref C_TooLong) = true) (kx_TooLong : PySem.W.excIn K C_TooLong [.type "ValueError", .type "Exception", .type "BaseException", .type "object"] "ValueError.__new__" = true)
    (kk_TooMany : PySem.W.keepIn K (.ref C_TooMany) = true) (kx_TooMany : PySem.W.excIn K C_TooMany [.type "ValueError", .type "Exception", .type "BaseException", .type "object"] "ValueError.__new__" = true)
    (kk_NoLong : PySem.W.keepIn K (.ref C_NoLong) = true) (kx_NoLong : PySem.W.excIn K C_NoLong [.type "ValueError", .type "Exception", .type "BaseException", .type "object"] "ValueError.__new__" = true)
    (kk_NoNumber : PySem.W.keepIn K (.ref C_NoNumber) = true) (kx_NoNumber : PySem.W.excIn K C_NoNumber [.type "ValueError", .type "Exception", .type "BaseException", .type "object"] "ValueError.__new__" = true)
    (kk_NoRow : PySem.W.keepIn K (.ref C_NoRow) = true) (kx_NoRow : PySem.W.excIn K C_NoRow [.type "ValueError", .type "Exception", .type "BaseException", .type "object"] "ValueError.__new__" = true)
    (kk_NoName : PySem.W.keepIn K (.ref C_NoName) = true) (kx_NoName : PySem.W.excIn K C_NoName [.type "ValueError", .type "Exception", .type "BaseException", .type "object"] "ValueError.__new__" = true)
    (kk_Twice : PySem.W.keepIn K (.ref C_Twice) = true) (kx_Twice : PySem.W.excIn K C_Twice [.type "ValueError", .type "Exception", .type "BaseException", .type "object"] "ValueError.__new__" = true)
    (kk_Used : PySem.W.keepIn K (.ref C_Used) = true) (kx_Used : PySem.W.excIn K C_Used [.type "ValueError", .type "Exception", .type "BaseException", .type "object"] "ValueError.__new__" = true)
    (kk_NoGap : PySem.W.keepIn K (.ref C_NoGap) = true) (kx_NoGap : PySem.W.excIn K C_NoGap [.type "ValueError", .type "Exception", .type "BaseException", .type "object"] "ValueError.__new__" = true)
    (kk_NoTree : PySem.W.keepIn K (.ref C_NoTree) = true) (kx_NoTree : PySem.W.excIn K C_NoTree [.type "ValueError", .type "Exception", .type "BaseException", .type "object"] "ValueError.__new__" = true)
    (kk_NoUndo : PySem.W.keepIn K (.ref C_NoUndo) = true) (kx_NoUndo : PySem.W.excIn K C_NoUndo [.type "ValueError", .type "Exception", .type "BaseException", .type "object"] "ValueError.__new__" = true)
    (bs_KindError : PySem.W.specialIn K (.ref C_KindError) "__getattribute__" = some (some (.builtin "type.__getattribute__"))) (br_KindError : PySem.W.readsIn K C_KindError (.type "type") = true) (bf_KindError : PySem.W.findCls K (.ref C_KindError) (.type "type") "__init__" = some (.val (.builtin "ValueError.__init__")))
    {nmz_NoFit qz_NoFit : Str} {Nz_NoFit : Addr} {bsz_NoFit bmz_NoFit sbz_NoFit : List Value} {snz_NoFit : List Str} {abz_NoFit : Bool} {colz_NoFit : Option Bool} {ddz_NoFit : Option Addr} {k0z_NoFit k1z_NoFit k2z_NoFit k3z_NoFit k5z_NoFit : Option Value}
    (ox_NoFit : K.lookup C_NoFit = some (excClassObj nmz_NoFit qz_NoFit C_NoFit Nz_NoFit bsz_NoFit bmz_NoFit true snz_NoFit sbz_NoFit abz_NoFit colz_NoFit ddz_NoFit k0z_NoFit k1z_NoFit k2z_NoFit k3z_NoFit k5z_NoFit "ValueError.__new__")) (hhz_NoFit : PySem.HandSPX.refsVE bmz_NoFit = true)
    (os_NoFit : PySem.W.findIn K (.ref C_NoFit) "__setattr__" = some (some (.builtin "object.__setattr__"))) (okz_NoFit : PySem.W.keepIn K (.ref C_NoFit) = true) (onz_NoFit : PySem.W.findIn K (.ref C_NoFit) "place" = some none)
    {f_NoFit___init__ : Addr} {oc_NoFit___init__ kV_NoFit___init__ dc_NoFit___init__ pm_NoFit___init__ cd_NoFit___init__ ct_NoFit___init__ : Value} {od_NoFit___init__ an_NoFit___init__ : Option Addr} {sl_NoFit___init__ : Array (Option Value)}
    (a_NoFit___init__ : PySem.W.findIn K (.ref C_NoFit) "__init__" = some (some (.ref f_NoFit___init__))) (ti_NoFit___init__ : PySem.W.typeIn K (.ref f_NoFit___init__) = some (.type "function"))
    (l_NoFit___init__ : K.lookup f_NoFit___init__ = some ⟨oc_NoFit___init__, od_NoFit___init__, .func (PySem.W.fnOf "__init__" "NoFit.__init__" (defArgs s_NoFit___init__) (defBody s_NoFit___init__) (defScope s_NoFit___init__) .none kV_NoFit___init__ dc_NoFit___init__ pm_NoFit___init__ an_NoFit___init__ cd_NoFit___init__ ct_NoFit___init__), sl_NoFit___init__⟩)
    (c_NoFit___init__ : PySem.W.codeIn K cd_NoFit___init__ "NoFit.__init__" = true) (k_NoFit___init__ : PySem.W.keepIn K (.ref f_NoFit___init__) = true)
    {nmz_NoMaking qz_NoMaking : Str} {Nz_NoMaking : Addr} {bsz_NoMaking bmz_NoMaking sbz_NoMaking : List Value} {snz_NoMaking : List Str} {abz_NoMaking : Bool} {colz_NoMaking : Option Bool} {ddz_NoMaking : Option Addr} {k0z_NoMaking k1z_NoMaking k2z_NoMaking k3z_NoMaking k5z_NoMaking : Option Value}
    (ox_NoMaking : K.lookup C_NoMaking = some (excClassObj nmz_NoMaking qz_NoMaking C_NoMaking Nz_NoMaking bsz_NoMaking bmz_NoMaking true snz_NoMaking sbz_NoMaking abz_NoMaking colz_NoMaking ddz_NoMaking k0z_NoMaking k1z_NoMaking k2z_NoMaking k3z_NoMaking k5z_NoMaking "ValueError.__new__")) (hhz_NoMaking : PySem.HandSPX.refsVE bmz_NoMaking = true)
    (os_NoMaking : PySem.W.findIn K (.ref C_NoMaking) "__setattr__" = some (some (.builtin "object.__setattr__"))) (okz_NoMaking : PySem.W.keepIn K (.ref C_NoMaking) = true) (onz_NoMaking : PySem.W.findIn K (.ref C_NoMaking) "at" = some none)
    {f_NoMaking___init__ : Addr} {oc_NoMaking___init__ kV_NoMaking___init__ dc_NoMaking___init__ pm_NoMaking___init__ cd_NoMaking___init__ ct_NoMaking___init__ : Value} {od_NoMaking___init__ an_NoMaking___init__ : Option Addr} {sl_NoMaking___init__ : Array (Option Value)}
    (a_NoMaking___init__ : PySem.W.findIn K (.ref C_NoMaking) "__init__" = some (some (.ref f_NoMaking___init__))) (ti_NoMaking___init__ : PySem.W.typeIn K (.ref f_NoMaking___init__) = some (.type "function"))
    (l_NoMaking___init__ : K.lookup f_NoMaking___init__ = some ⟨oc_NoMaking___init__, od_NoMaking___init__, .func (PySem.W.fnOf "__init__" "NoMaking.__init__" (defArgs s_NoMaking___init__) (defBody s_NoMaking___init__) (defScope s_NoMaking___init__) .none kV_NoMaking___init__ dc_NoMaking___init__ pm_NoMaking___init__ an_NoMaking___init__ cd_NoMaking___init__ ct_NoMaking___init__), sl_NoMaking___init__⟩)
    (c_NoMaking___init__ : PySem.W.codeIn K cd_NoMaking___init__ "NoMaking.__init__" = true) (k_NoMaking___init__ : PySem.W.keepIn K (.ref f_NoMaking___init__) = true)
    (ega_NoKind : PySem.W.findIn K (.ref C_NoKind) "__getattribute__" = some (some (.builtin "BaseException.__getattribute__")))
    (egt_NoKind : PySem.W.findIn K (.ref C_NoKind) "__getattr__" = some none)
    (edc_NoKind : PySem.W.hasDictIn K C_NoKind = true)
    (ecc_NoKind : PySem.W.findIn K (.ref C_NoKind) "__class__" = some (some (.builtin "object.__class__")))
    (emo_NoKind : PySem.W.mroIn K C_NoKind (.type "object") = some true)
    (ega_NoText : PySem.W.findIn K (.ref C_NoText) "__getattribute__" = some (some (.builtin "BaseException.__getattribute__")))
    (egt_NoText : PySem.W.findIn K (.ref C_NoText) "__getattr__" = some none)
    (edc_NoText : PySem.W.hasDictIn K C_NoText = true)
    (ecc_NoText : PySem.W.findIn K (.ref C_NoText) "__class__" = some (some (.builtin "object.__class__")))
    (emo_NoText : PySem.W.mroIn K C_NoText (.type "object") = some true)
    (ega_NoStep : PySem.W.findIn K (.ref C_NoStep) "__getattribute__" = some (some (.builtin "BaseException.__getattribute__")))
    (egt_NoStep : PySem.W.findIn K (.ref C_NoStep) "__getattr__" = some none)
    (edc_NoStep : PySem.W.hasDictIn K C_NoStep = true)
    (ecc_NoStep : PySem.W.findIn K (.ref C_NoStep) "__class__" = some (some (.builtin "object.__class__")))
    (emo_NoStep : PySem.W.mroIn K C_NoStep (.type "object") = some true)
    (ega_TooLong : PySem.W.findIn K (.ref C_TooLong) "__getattribute__" = some (some (.builtin "BaseException.__getattribute__")))
    (egt_TooLong : PySem.W.findIn K (.ref C_TooLong) "__getattr__" = some none)
    (edc_TooLong : PySem.W.hasDictIn K C_TooLong = true)
    (ecc_TooLong : PySem.W.findIn K (.ref C_TooLong) "__class__" = some (some (.builtin "object.__class__")))
    (emo_TooLong : PySem.W.mroIn K C_TooLong (.type "object") = some true)
    (ega_TooMany : PySem.W.findIn K (.ref C_TooMany) "__getattribute__" = some (some (.builtin "BaseException.__getattribute__")))
    (egt_TooMany : PySem.W.findIn K (.ref C_TooMany) "__getattr__" = some none)
    (edc_TooMany : PySem.W.hasDictIn K C_TooMany = true)
    (ecc_TooMany : PySem.W.findIn K (.ref C_TooMany) "__class__" = some (some (.builtin "object.__class__")))
    (emo_TooMany : PySem.W.mroIn K C_TooMany (.type "object") = some true)
    (ega_NoLong : PySem.W.findIn K (.ref C_NoLong) "__getattribute__" = some (some (.builtin "BaseException.__getattribute__")))
    (egt_NoLong : PySem.W.findIn K (.ref C_NoLong) "__getattr__" = some none)
    (edc_NoLong : PySem.W.hasDictIn K C_NoLong = true)
    (ecc_NoLong : PySem.W.findIn K (.ref C_NoLong) "__class__" = some (some (.builtin "object.__class__")))
    (emo_NoLong : PySem.W.mroIn K C_NoLong (.type "object") = some true)
    (ega_NoNumber : PySem.W.findIn K (.ref C_NoNumber) "__getattribute__" = some (some (.builtin "BaseException.__getattribute__")))
    (egt_NoNumber : PySem.W.findIn K (.ref C_NoNumber) "__getattr__" = some none)
    (edc_NoNumber : PySem.W.hasDictIn K C_NoNumber = true)
    (ecc_NoNumber : PySem.W.findIn K (.ref C_NoNumber) "__class__" = some (some (.builtin "object.__class__")))
    (emo_NoNumber : PySem.W.mroIn K C_NoNumber (.type "object") = some true)
    (ega_NoRow : PySem.W.findIn K (.ref C_NoRow) "__getattribute__" = some (some (.builtin "BaseException.__getattribute__")))
    (egt_NoRow : PySem.W.findIn K (.ref C_NoRow) "__getattr__" = some none)
    (edc_NoRow : PySem.W.hasDictIn K C_NoRow = true)
    (ecc_NoRow : PySem.W.findIn K (.ref C_NoRow) "__class__" = some (some (.builtin "object.__class__")))
    (emo_NoRow : PySem.W.mroIn K C_NoRow (.type "object") = some true)
    (ega_NoName : PySem.W.findIn K (.ref C_NoName) "__getattribute__" = some (some (.builtin "BaseException.__getattribute__")))
    (egt_NoName : PySem.W.findIn K (.ref C_NoName) "__getattr__" = some none)
    (edc_NoName : PySem.W.hasDictIn K C_NoName = true)
    (ecc_NoName : PySem.W.findIn K (.ref C_NoName) "__class__" = some (some (.builtin "object.__class__")))
    (emo_NoName : PySem.W.mroIn K C_NoName (.type "object") = some true)
    (ega_Twice : PySem.W.findIn K (.ref C_Twice) "__getattribute__" = some (some (.builtin "BaseException.__getattribute__")))
    (egt_Twice : PySem.W.findIn K (.ref C_Twice) "__getattr__" = some none)
    (edc_Twice : PySem.W.hasDictIn K C_Twice = true)
    (ecc_Twice : PySem.W.findIn K (.ref C_Twice) "__class__" = some (some (.builtin "object.__class__")))
    (emo_Twice : PySem.W.mroIn K C_Twice (.type "object") = some true)
    (ega_Used : PySem.W.findIn K (.ref C_Used) "__getattribute__" = some (some (.builtin "BaseException.__getattribute__")))
    (egt_Used : PySem.W.findIn K (.ref C_Used) "__getattr__" = some none)
    (edc_Used : PySem.W.hasDictIn K C_Used = true)
    (ecc_Used : PySem.W.findIn K (.ref C_Used) "__class__" = some (some (.builtin "object.__class__")))
    (emo_Used : PySem.W.mroIn K C_Used (.type "object") = some true)
    (ega_NoGap : PySem.W.findIn K (.ref C_NoGap) "__getattribute__" = some (some (.builtin "BaseException.__getattribute__")))
    (egt_NoGap : PySem.W.findIn K (.ref C_NoGap) "__getattr__" = some none)
    (edc_NoGap : PySem.W.hasDictIn K C_NoGap = true)
    (ecc_NoGap : PySem.W.findIn K (.ref C_NoGap) "__class__" = some (some (.builtin "object.__class__")))
    (emo_NoGap : PySem.W.mroIn K C_NoGap (.type "object") = some true)
    (ega_NoTree : PySem.W.findIn K (.ref C_NoTree) "__getattribute__" = some (some (.builtin "BaseException.__getattribute__")))
    (egt_NoTree : PySem.W.findIn K (.ref C_NoTree) "__getattr__" = some none)
    (edc_NoTree : PySem.W.hasDictIn K C_NoTree = true)
    (ecc_NoTree : PySem.W.findIn K (.ref C_NoTree) "__class__" = some (some (.builtin "object.__class__")))
    (emo_NoTree : PySem.W.mroIn K C_NoTree (.type "object") = some true)
    (ega_NoUndo : PySem.W.findIn K (.ref C_NoUndo) "__getattribute__" = some (some (.builtin "BaseException.__getattribute__")))
    (egt_NoUndo : PySem.W.findIn K (.ref C_NoUndo) "__getattr__" = some none)
    (edc_NoUndo : PySem.W.hasDictIn K C_NoUndo = true)
    (ecc_NoUndo : PySem.W.findIn K (.ref C_NoUndo) "__class__" = some (some (.builtin "object.__class__")))
    (emo_NoUndo : PySem.W.mroIn K C_NoUndo (.type "object") = some true)
    (ega_NoFit : PySem.W.findIn K (.ref C_NoFit) "__getattribute__" = some (some (.builtin "BaseException.__getattribute__")))
    (egt_NoFit : PySem.W.findIn K (.ref C_NoFit) "__getattr__" = some none)
    (edc_NoFit : PySem.W.hasDictIn K C_NoFit = true)
    (ecc_NoFit : PySem.W.findIn K (.ref C_NoFit) "__class__" = some (some (.builtin "object.__class__")))
    (emo_NoFit : PySem.W.mroIn K C_NoFit (.type "object") = some true)
    (ega_NoMaking : PySem.W.findIn K (.ref C_NoMaking) "__getattribute__" = some (some (.builtin "BaseException.__getattribute__")))
    (egt_NoMaking : PySem.W.findIn K (.ref C_NoMaking) "__getattr__" = some none)
    (edc_NoMaking : PySem.W.hasDictIn K C_NoMaking = true)
    (ecc_NoMaking : PySem.W.findIn K (.ref C_NoMaking) "__class__" = some (some (.builtin "object.__class__")))
    (emo_NoMaking : PySem.W.mroIn K C_NoMaking (.type "object") = some true)
    (spc : PySem.W.specialIn K (.builtin "object.__class__") "__get__" = some (some (.builtin "getset_descriptor.__get__"))) (tkc : PySem.W.takesIn K (.builtin "object.__class__") = some true)
    (sb_NoKind_KindError : PySem.W.subIn K (.ref C_NoKind) (.ref C_KindError) = some true)
    (sb_NoKind_ValueError : PySem.W.subIn K (.ref C_NoKind) (.type "ValueError") = some true)
    (sb_NoKind_NoText : PySem.W.subIn K (.ref C_NoKind) (.ref C_NoText) = some false)
    (sb_NoKind_NoStep : PySem.W.subIn K (.ref C_NoKind) (.ref C_NoStep) = some false)
    (sb_NoKind_TooLong : PySem.W.subIn K (.ref C_NoKind) (.ref C_TooLong) = some false)
    (sb_NoKind_TooMany : PySem.W.subIn K (.ref C_NoKind) (.ref C_TooMany) = some false)
    (sb_NoKind_NoLong : PySem.W.subIn K (.ref C_NoKind) (.ref C_NoLong) = some false)
    (sb_NoKind_NoNumber : PySem.W.subIn K (.ref C_NoKind) (.ref C_NoNumber) = some false)
    (sb_NoKind_NoRow : PySem.W.subIn K (.ref C_NoKind) (.ref C_NoRow) = some false)
    (sb_NoKind_NoName : PySem.W.subIn K (.ref C_NoKind) (.ref C_NoName) = some false)
    (sb_NoKind_Twice : PySem.W.subIn K (.ref C_NoKind) (.ref C_Twice) = some false)
    (sb_NoKind_Used : PySem.W.subIn K (.ref C_NoKind) (.ref C_Used) = some false)
    (sb_NoKind_NoGap : PySem.W.subIn K (.ref C_NoKind) (.ref C_NoGap) = some false)
    (sb_NoKind_NoTree : PySem.W.subIn K (.ref C_NoKind) (.ref C_NoTree) = some false)
    (sb_NoKind_NoUndo : PySem.W.subIn K (.ref C_NoKind) (.ref C_NoUndo) = some false)
    (sb_NoKind_NoFit : PySem.W.subIn K (.ref C_NoKind) (.ref C_NoFit) = some false)
    (sb_NoKind_NoMaking : PySem.W.subIn K (.ref C_NoKind) (.ref C_NoMaking) = some false)
    (sb_NoText_KindError : PySem.W.subIn K (.ref C_NoText) (.ref C_KindError) = some true)
    (sb_NoText_ValueError : PySem.W.subIn K (.ref C_NoText) (.type "ValueError") = some true)
    (sb_NoText_NoKind : PySem.W.subIn K (.ref C_NoText) (.ref C_NoKind) = some false)
    (sb_NoText_NoStep : PySem.W.subIn K (.ref C_NoText) (.ref C_NoStep) = some false)
    (sb_NoText_TooLong : PySem.W.subIn K (.ref C_NoText) (.ref C_TooLong) = some false)
    (sb_NoText_TooMany : PySem.W.subIn K (.ref C_NoText) (.ref C_TooMany) = some false)
    (sb_NoText_NoLong : PySem.W.subIn K (.ref C_NoText) (.ref C_NoLong) = some false)
    (sb_NoText_NoNumber : PySem.W.subIn K (.ref C_NoText) (.ref C_NoNumber) = some false)
    (sb_NoText_NoRow : PySem.W.subIn K (.ref C_NoText) (.ref C_NoRow) = some false)
    (sb_NoText_NoName : PySem.W.subIn K (.ref C_NoText) (.ref C_NoName) = some false)
    (sb_NoText_Twice : PySem.W.subIn K (.ref C_NoText) (.ref C_Twice) = some false)
    (sb_NoText_Used : PySem.W.subIn K (.ref C_NoText) (.ref C_Used) = some false)
    (sb_NoText_NoGap : PySem.W.subIn K (.ref C_NoText) (.ref C_NoGap) = some false)
    (sb_NoText_NoTree : PySem.W.subIn K (.ref C_NoText) (.ref C_NoTree) = some false)
    (sb_NoText_NoUndo : PySem.W.subIn K (.ref C_NoText) (.ref C_NoUndo) = some false)
    (sb_NoText_NoFit : PySem.W.subIn K (.ref C_NoText) (.ref C_NoFit) = some false)
    (sb_NoText_NoMaking : PySem.W.subIn K (.ref C_NoText) (.ref C_NoMaking) = some false)
    (sb_NoStep_KindError : PySem.W.subIn K (.ref C_NoStep) (.ref C_KindError) = some true)
    (sb_NoStep_ValueError : PySem.W.subIn K (.ref C_NoStep) (.type "ValueError") = some true)
    (sb_NoStep_NoKind : PySem.W.subIn K (.ref C_NoStep) (.ref C_NoKind) = some false)
    (sb_NoStep_NoText : PySem.W.subIn K (.ref C_NoStep) (.ref C_NoText) = some false)
    (sb_NoStep_TooLong : PySem.W.subIn K (.ref C_NoStep) (.ref C_TooLong) = some false)
    (sb_NoStep_TooMany : PySem.W.subIn K (.ref C_NoStep) (.ref C_TooMany) = some false)
    (sb_NoStep_NoLong : PySem.W.subIn K (.ref C_NoStep) (.ref C_NoLong) = some false)
    (sb_NoStep_NoNumber : PySem.W.subIn K (.ref C_NoStep) (.ref C_NoNumber) = some false)
    (sb_NoStep_NoRow : PySem.W.subIn K (.ref C_NoStep) (.ref C_NoRow) = some false)
    (sb_NoStep_NoName : PySem.W.subIn K (.ref C_NoStep) (.ref C_NoName) = some false)
    (sb_NoStep_Twice : PySem.W.subIn K (.ref C_NoStep) (.ref C_Twice) = some false)
    (sb_NoStep_Used : PySem.W.subIn K (.ref C_NoStep) (.ref C_Used) = some false)
    (sb_NoStep_NoGap : PySem.W.subIn K (.ref C_NoStep) (.ref C_NoGap) = some false)
    (sb_NoStep_NoTree : PySem.W.subIn K (.ref C_NoStep) (.ref C_NoTree) = some false)
    (sb_NoStep_NoUndo : PySem.W.subIn K (.ref C_NoStep) (.ref C_NoUndo) = some false)
    (sb_NoStep_NoFit : PySem.W.subIn K (.ref C_NoStep) (.ref C_NoFit) = some false)
    (sb_NoStep_NoMaking : PySem.W.subIn K (.ref C_NoStep) (.ref C_NoMaking) = some false)
    (sb_TooLong_KindError : PySem.W.subIn K (.ref C_TooLong) (.ref C_KindError) = some true)
    (sb_TooLong_ValueError : PySem.W.subIn K (.ref C_TooLong) (.type "ValueError") = some true)
    (sb_TooLong_NoKind : PySem.W.subIn K (.ref C_TooLong) (.ref C_NoKind) = some false)
    (sb_TooLong_NoText : PySem.W.subIn K (.ref C_TooLong) (.ref C_NoText) = some false)
    (sb_TooLong_NoStep : PySem.W.subIn K (.ref C_TooLong) (.ref C_NoStep) = some false)
    (sb_TooLong_TooMany : PySem.W.subIn K (.ref C_TooLong) (.ref C_TooMany) = some false)
    (sb_TooLong_NoLong : PySem.W.subIn K (.ref C_TooLong) (.ref C_NoLong) = some false)
    (sb_TooLong_NoNumber : PySem.W.subIn K (.ref C_TooLong) (.ref C_NoNumber) = some false)
    (sb_TooLong_NoRow : PySem.W.subIn K (.ref C_TooLong) (.ref C_NoRow) = some false)
    (sb_TooLong_NoName : PySem.W.subIn K (.ref C_TooLong) (.ref C_NoName) = some false)
    (sb_TooLong_Twice : PySem.W.subIn K (.ref C_TooLong) (.ref C_Twice) = some false)
    (sb_TooLong_Used : PySem.W.subIn K (.ref C_TooLong) (.ref C_Used) = some false)
    (sb_TooLong_NoGap : PySem.W.subIn K (.ref C_TooLong) (.ref C_NoGap) = some false)
    (sb_TooLong_NoTree : PySem.W.subIn K (.ref C_TooLong) (.ref C_NoTree) = some false)
    (sb_TooLong_NoUndo : PySem.W.subIn K (.ref C_TooLong) (.ref C_NoUndo) = some false)
    (sb_TooLong_NoFit : PySem.W.subIn K (.ref C_TooLong) (.ref C_NoFit) = some false)
    (sb_TooLong_NoMaking : PySem.W.subIn K (.ref C_TooLong) (.ref C_NoMaking) = some false)
    (sb_TooMany_KindError : PySem.W.subIn K (.ref C_TooMany) (.ref C_KindError) = some true)
    (sb_TooMany_ValueError : PySem.W.subIn K (.ref C_TooMany) (.type "ValueError") = some true)
    (sb_TooMany_NoKind : PySem.W.subIn K (.ref C_TooMany) (.ref C_NoKind) = some false)
    (sb_TooMany_NoText : PySem.W.subIn K (.ref C_TooMany) (.ref C_NoText) = some false)
    (sb_TooMany_NoStep : PySem.W.subIn K (.ref C_TooMany) (.ref C_NoStep) = some false)
    (sb_TooMany_TooLong : PySem.W.subIn K (.ref C_TooMany) (.ref C_TooLong) = some false)
    (sb_TooMany_NoLong : PySem.W.subIn K (.ref C_TooMany) (.ref C_NoLong) = some false)
    (sb_TooMany_NoNumber : PySem.W.subIn K (.ref C_TooMany) (.ref C_NoNumber) = some false)
    (sb_TooMany_NoRow : PySem.W.subIn K (.ref C_TooMany) (.ref C_NoRow) = some false)
    (sb_TooMany_NoName : PySem.W.subIn K (.ref C_TooMany) (.ref C_NoName) = some false)
    (sb_TooMany_Twice : PySem.W.subIn K (.ref C_TooMany) (.ref C_Twice) = some false)
    (sb_TooMany_Used : PySem.W.subIn K (.ref C_TooMany) (.ref C_Used) = some false)
    (sb_TooMany_NoGap : PySem.W.subIn K (.ref C_TooMany) (.ref C_NoGap) = some false)
    (sb_TooMany_NoTree : PySem.W.subIn K (.ref C_TooMany) (.ref C_NoTree) = some false)
    (sb_TooMany_NoUndo : PySem.W.subIn K (.ref C_TooMany) (.ref C_NoUndo) = some false)
    (sb_TooMany_NoFit : PySem.W.subIn K (.ref C_TooMany) (.ref C_NoFit) = some false)
    (sb_TooMany_NoMaking : PySem.W.subIn K (.ref C_TooMany) (.ref C_NoMaking) = some false)
    (sb_NoLong_KindError : PySem.W.subIn K (.ref C_NoLong) (.ref C_KindError) = some true)
    (sb_NoLong_ValueError : PySem.W.subIn K (.ref C_NoLong) (.type "ValueError") = some true)
    (sb_NoLong_NoKind : PySem.W.subIn K (.ref C_NoLong) (.ref C_NoKind) = some false)
    (sb_NoLong_NoText : PySem.W.subIn K (.ref C_NoLong) (.ref C_NoText) = some false)
    (sb_NoLong_NoStep : PySem.W.subIn K (.ref C_NoLong) (.ref C_NoStep) = some false)
    (sb_NoLong_TooLong : PySem.W.subIn K (.ref C_NoLong) (.ref C_TooLong) = some false)
    (sb_NoLong_TooMany : PySem.W.subIn K (.ref C_NoLong) (.ref C_TooMany) = some false)
    (sb_NoLong_NoNumber : PySem.W.subIn K (.ref C_NoLong) (.ref C_NoNumber) = some false)
    (sb_NoLong_NoRow : PySem.W.subIn K (.ref C_NoLong) (.ref C_NoRow) = some false)
    (sb_NoLong_NoName : PySem.W.subIn K (.ref C_NoLong) (.ref C_NoName) = some false)
    (sb_NoLong_Twice : PySem.W.subIn K (.ref C_NoLong) (.ref C_Twice) = some false)
    (sb_NoLong_Used : PySem.W.subIn K (.ref C_NoLong) (.ref C_Used) = some false)
    (sb_NoLong_NoGap : PySem.W.subIn K (.ref C_NoLong) (.ref C_NoGap) = some false)
    (sb_NoLong_NoTree : PySem.W.subIn K (.ref C_NoLong) (.ref C_NoTree) = some false)
    (sb_NoLong_NoUndo : PySem.W.subIn K (.ref C_NoLong) (.ref C_NoUndo) = some false)
    (sb_NoLong_NoFit : PySem.W.subIn K (.ref C_NoLong) (.ref C_NoFit) = some false)
    (sb_NoLong_NoMaking : PySem.W.subIn K (.ref C_NoLong) (.ref C_NoMaking) = some false)
    (sb_NoNumber_KindError : PySem.W.subIn K (.ref C_NoNumber) (.ref C_KindError) = some true)
    (sb_NoNumber_ValueError : PySem.W.subIn K (.ref C_NoNumber) (.type "ValueError") = some true)
    (sb_NoNumber_NoKind : PySem.W.subIn K (.ref C_NoNumber) (.ref C_NoKind) = some false)
    (sb_NoNumber_NoText : PySem.W.subIn K (.ref C_NoNumber) (.ref C_NoText) = some false)
    (sb_NoNumber_NoStep : PySem.W.subIn K (.ref C_NoNumber) (.ref C_NoStep) = some false)
    (sb_NoNumber_TooLong : PySem.W.subIn K (.ref C_NoNumber) (.ref C_TooLong) = some false)
    (sb_NoNumber_TooMany : PySem.W.subIn K (.ref C_NoNumber) (.ref C_TooMany) = some false)
    (sb_NoNumber_NoLong : PySem.W.subIn K (.ref C_NoNumber) (.ref C_NoLong) = some false)
    (sb_NoNumber_NoRow : PySem.W.subIn K (.ref C_NoNumber) (.ref C_NoRow) = some false)
    (sb_NoNumber_NoName : PySem.W.subIn K (.ref C_NoNumber) (.ref C_NoName) = some false)
    (sb_NoNumber_Twice : PySem.W.subIn K (.ref C_NoNumber) (.ref C_Twice) = some false)
    (sb_NoNumber_Used : PySem.W.subIn K (.ref C_NoNumber) (.ref C_Used) = some false)
    (sb_NoNumber_NoGap : PySem.W.subIn K (.ref C_NoNumber) (.ref C_NoGap) = some false)
    (sb_NoNumber_NoTree : PySem.W.subIn K (.ref C_NoNumber) (.ref C_NoTree) = some false)
    (sb_NoNumber_NoUndo : PySem.W.subIn K (.ref C_NoNumber) (.ref C_NoUndo) = some false)
    (sb_NoNumber_NoFit : PySem.W.subIn K (.ref C_NoNumber) (.ref C_NoFit) = some false)
    (sb_NoNumber_NoMaking : PySem.W.subIn K (.ref C_NoNumber) (.ref C_NoMaking) = some false)
    (sb_NoRow_KindError : PySem.W.subIn K (.ref C_NoRow) (.ref C_KindError) = some true)
    (sb_NoRow_ValueError : PySem.W.subIn K (.ref C_NoRow) (.type "ValueError") = some true)
    (sb_NoRow_NoKind : PySem.W.subIn K (.ref C_NoRow) (.ref C_NoKind) = some false)
    (sb_NoRow_NoText : PySem.W.subIn K (.ref C_NoRow) (.ref C_NoText) = some false)
    (sb_NoRow_NoStep : PySem.W.subIn K (.ref C_NoRow) (.ref C_NoStep) = some false)
    (sb_NoRow_TooLong : PySem.W.subIn K (.ref C_NoRow) (.ref C_TooLong) = some false)
    (sb_NoRow_TooMany : PySem.W.subIn K (.ref C_NoRow) (.ref C_TooMany) = some false)
    (sb_NoRow_NoLong : PySem.W.subIn K (.ref C_NoRow) (.ref C_NoLong) = some false)
    (sb_NoRow_NoNumber : PySem.W.subIn K (.ref C_NoRow) (.ref C_NoNumber) = some false)
    (sb_NoRow_NoName : PySem.W.subIn K (.ref C_NoRow) (.ref C_NoName) = some false)
    (sb_NoRow_Twice : PySem.W.subIn K (.ref C_NoRow) (.ref C_Twice) = some false)
    (sb_NoRow_Used : PySem.W.subIn K (.ref C_NoRow) (.ref C_Used) = some false)
    (sb_NoRow_NoGap : PySem.W.subIn K (.ref C_NoRow) (.ref C_NoGap) = some false)
    (sb_NoRow_NoTree : PySem.W.subIn K (.ref C_NoRow) (.ref C_NoTree) = some false)
    (sb_NoRow_NoUndo : PySem.W.subIn K (.ref C_NoRow) (.ref C_NoUndo) = some false)
    (sb_NoRow_NoFit : PySem.W.subIn K (.ref C_NoRow) (.ref C_NoFit) = some false)
    (sb_NoRow_NoMaking : PySem.W.subIn K (.ref C_NoRow) (.ref C_NoMaking) = some false)
    (sb_NoName_KindError : PySem.W.subIn K (.ref C_NoName) (.ref C_KindError) = some true)
    (sb_NoName_ValueError : PySem.W.subIn K (.ref C_NoName) (.type "ValueError") = some true)
    (sb_NoName_NoKind : PySem.W.subIn K (.ref C_NoName) (.ref C_NoKind) = some false)
    (sb_NoName_NoText : PySem.W.subIn K (.ref C_NoName) (.ref C_NoText) = some false)
    (sb_NoName_NoStep : PySem.W.subIn K (.ref C_NoName) (.ref C_NoStep) = some false)
    (sb_NoName_TooLong : PySem.W.subIn K (.ref C_NoName) (.ref C_TooLong) = some false)
    (sb_NoName_TooMany : PySem.W.subIn K (.ref C_NoName) (.ref C_TooMany) = some false)
    (sb_NoName_NoLong : PySem.W.subIn K (.ref C_NoName) (.ref C_NoLong) = some false)
    (sb_NoName_NoNumber : PySem.W.subIn K (.ref C_NoName) (.ref C_NoNumber) = some false)
    (sb_NoName_NoRow : PySem.W.subIn K (.ref C_NoName) (.ref C_NoRow) = some false)
    (sb_NoName_Twice : PySem.W.subIn K (.ref C_NoName) (.ref C_Twice) = some false)
    (sb_NoName_Used : PySem.W.subIn K (.ref C_NoName) (.ref C_Used) = some false)
    (sb_NoName_NoGap : PySem.W.subIn K (.ref C_NoName) (.ref C_NoGap) = some false)
    (sb_NoName_NoTree : PySem.W.subIn K (.ref C_NoName) (.ref C_NoTree) = some false)
    (sb_NoName_NoUndo : PySem.W.subIn K (.ref C_NoName) (.ref C_NoUndo) = some false)
    (sb_NoName_NoFit : PySem.W.subIn K (.ref C_NoName) (.ref C_NoFit) = some false)
    (sb_NoName_NoMaking : PySem.W.subIn K (.ref C_NoName) (.ref C_NoMaking) = some false)
    (sb_Twice_KindError : PySem.W.subIn K (.ref C_Twice) (.ref C_KindError) = some true)
    (sb_Twice_ValueError : PySem.W.subIn K (.ref C_Twice) (.type "ValueError") = some true)
    (sb_Twice_NoKind : PySem.W.subIn K (.ref C_Twice) (.ref C_NoKind) = some false)
    (sb_Twice_NoText : PySem.W.subIn K (.ref C_Twice) (.ref C_NoText) = some false)
    (sb_Twice_NoStep : PySem.W.subIn K (.ref C_Twice) (.ref C_NoStep) = some false)
    (sb_Twice_TooLong : PySem.W.subIn K (.ref C_Twice) (.ref C_TooLong) = some false)
    (sb_Twice_TooMany : PySem.W.subIn K (.ref C_Twice) (.ref C_TooMany) = some false)
    (sb_Twice_NoLong : PySem.W.subIn K (.ref C_Twice) (.ref C_NoLong) = some false)
    (sb_Twice_NoNumber : PySem.W.subIn K (.ref C_Twice) (.ref C_NoNumber) = some false)
    (sb_Twice_NoRow : PySem.W.subIn K (.ref C_Twice) (.ref C_NoRow) = some false)
    (sb_Twice_NoName : PySem.W.subIn K (.ref C_Twice) (.ref C_NoName) = some false)
    (sb_Twice_Used : PySem.W.subIn K (.ref C_Twice) (.ref C_Used) = some false)
    (sb_Twice_NoGap : PySem.W.subIn K (.ref C_Twice) (.ref C_NoGap) = some false)
    (sb_Twice_NoTree : PySem.W.subIn K (.ref C_Twice) (.ref C_NoTree) = some false)
    (sb_Twice_NoUndo : PySem.W.subIn K (.ref C_Twice) (.ref C_NoUndo) = some false)
    (sb_Twice_NoFit : PySem.W.subIn K (.ref C_Twice) (.ref C_NoFit) = some false)
    (sb_Twice_NoMaking : PySem.W.subIn K (.ref C_Twice) (.ref C_NoMaking) = some false)
    (sb_Used_KindError : PySem.W.subIn K (.ref C_Used) (.ref C_KindError) = some true)
    (sb_Used_ValueError : PySem.W.subIn K (.ref C_Used) (.type "ValueError") = some true)
    (sb_Used_NoKind : PySem.W.subIn K (.ref C_Used) (.ref C_NoKind) = some false)
    (sb_Used_NoText : PySem.W.subIn K (.ref C_Used) (.ref C_NoText) = some false)
    (sb_Used_NoStep : PySem.W.subIn K (.ref C_Used) (.ref C_NoStep) = some false)
    (sb_Used_TooLong : PySem.W.subIn K (.ref C_Used) (.ref C_TooLong) = some false)
    (sb_Used_TooMany : PySem.W.subIn K (.ref C_Used) (.ref C_TooMany) = some false)
    (sb_Used_NoLong : PySem.W.subIn K (.ref C_Used) (.ref C_NoLong) = some false)
    (sb_Used_NoNumber : PySem.W.subIn K (.ref C_Used) (.ref C_NoNumber) = some false)
    (sb_Used_NoRow : PySem.W.subIn K (.ref C_Used) (.ref C_NoRow) = some false)
    (sb_Used_NoName : PySem.W.subIn K (.ref C_Used) (.ref C_NoName) = some false)
    (sb_Used_Twice : PySem.W.subIn K (.ref C_Used) (.ref C_Twice) = some false)
    (sb_Used_NoGap : PySem.W.subIn K (.ref C_Used) (.ref C_NoGap) = some false)
    (sb_Used_NoTree : PySem.W.subIn K (.ref C_Used) (.ref C_NoTree) = some false)
    (sb_Used_NoUndo : PySem.W.subIn K (.ref C_Used) (.ref C_NoUndo) = some false)
    (sb_Used_NoFit : PySem.W.subIn K (.ref C_Used) (.ref C_NoFit) = some false)
    (sb_Used_NoMaking : PySem.W.subIn K (.ref C_Used) (.ref C_NoMaking) = some false)
    (sb_NoGap_KindError : PySem.W.subIn K (.ref C_NoGap) (.ref C_KindError) = some true)
    (sb_NoGap_ValueError : PySem.W.subIn K (.ref C_NoGap) (.type "ValueError") = some true)
    (sb_NoGap_NoKind : PySem.W.subIn K (.ref C_NoGap) (.ref C_NoKind) = some false)
    (sb_NoGap_NoText : PySem.W.subIn K (.ref C_NoGap) (.ref C_NoText) = some false)
    (sb_NoGap_NoStep : PySem.W.subIn K (.ref C_NoGap) (.ref C_NoStep) = some false)
    (sb_NoGap_TooLong : PySem.W.subIn K (.ref C_NoGap) (.ref C_TooLong) = some false)
    (sb_NoGap_TooMany : PySem.W.subIn K (.ref C_NoGap) (.ref C_TooMany) = some false)
    (sb_NoGap_NoLong : PySem.W.subIn K (.ref C_NoGap) (.ref C_NoLong) = some false)
    (sb_NoGap_NoNumber : PySem.W.subIn K (.ref C_NoGap) (.ref C_NoNumber) = some false)
    (sb_NoGap_NoRow : PySem.W.subIn K (.ref C_NoGap) (.ref C_NoRow) = some false)
    (sb_NoGap_NoName : PySem.W.subIn K (.ref C_NoGap) (.ref C_NoName) = some false)
    (sb_NoGap_Twice : PySem.W.subIn K (.ref C_NoGap) (.ref C_Twice) = some false)
    (sb_NoGap_Used : PySem.W.subIn K (.ref C_NoGap) (.ref C_Used) = some false)
    (sb_NoGap_NoTree : PySem.W.subIn K (.ref C_NoGap) (.ref C_NoTree) = some false)
    (sb_NoGap_NoUndo : PySem.W.subIn K (.ref C_NoGap) (.ref C_NoUndo) = some false)
    (sb_NoGap_NoFit : PySem.W.subIn K (.ref C_NoGap) (.ref C_NoFit) = some false)
    (sb_NoGap_NoMaking : PySem.W.subIn K (.ref C_NoGap) (.ref C_NoMaking) = some false)
    (sb_NoTree_KindError : PySem.W.subIn K (.ref C_NoTree) (.ref C_KindError) = some true)
    (sb_NoTree_ValueError : PySem.W.subIn K (.ref C_NoTree) (.type "ValueError") = some true)
    (sb_NoTree_NoKind : PySem.W.subIn K (.ref C_NoTree) (.ref C_NoKind) = some false)
    (sb_NoTree_NoText : PySem.W.subIn K (.ref C_NoTree) (.ref C_NoText) = some false)
    (sb_NoTree_NoStep : PySem.W.subIn K (.ref C_NoTree) (.ref C_NoStep) = some false)
    (sb_NoTree_TooLong : PySem.W.subIn K (.ref C_NoTree) (.ref C_TooLong) = some false)
    (sb_NoTree_TooMany : PySem.W.subIn K (.ref C_NoTree) (.ref C_TooMany) = some false)
    (sb_NoTree_NoLong : PySem.W.subIn K (.ref C_NoTree) (.ref C_NoLong) = some false)
    (sb_NoTree_NoNumber : PySem.W.subIn K (.ref C_NoTree) (.ref C_NoNumber) = some false)
    (sb_NoTree_NoRow : PySem.W.subIn K (.ref C_NoTree) (.ref C_NoRow) = some false)
    (sb_NoTree_NoName : PySem.W.subIn K (.ref C_NoTree) (.ref C_NoName) = some false)
    (sb_NoTree_Twice : PySem.W.subIn K (.ref C_NoTree) (.ref C_Twice) = some false)
    (sb_NoTree_Used : PySem.W.subIn K (.ref C_NoTree) (.ref C_Used) = some false)
    (sb_NoTree_NoGap : PySem.W.subIn K (.ref C_NoTree) (.ref C_NoGap) = some false)
    (sb_NoTree_NoUndo : PySem.W.subIn K (.ref C_NoTree) (.ref C_NoUndo) = some false)
    (sb_NoTree_NoFit : PySem.W.subIn K (.ref C_NoTree) (.ref C_NoFit) = some false)
    (sb_NoTree_NoMaking : PySem.W.subIn K (.ref C_NoTree) (.ref C_NoMaking) = some false)
    (sb_NoUndo_KindError : PySem.W.subIn K (.ref C_NoUndo) (.ref C_KindError) = some true)
    (sb_NoUndo_ValueError : PySem.W.subIn K (.ref C_NoUndo) (.type "ValueError") = some true)
    (sb_NoUndo_NoKind : PySem.W.subIn K (.ref C_NoUndo) (.ref C_NoKind) = some false)
    (sb_NoUndo_NoText : PySem.W.subIn K (.ref C_NoUndo) (.ref C_NoText) = some false)
    (sb_NoUndo_NoStep : PySem.W.subIn K (.ref C_NoUndo) (.ref C_NoStep) = some false)
    (sb_NoUndo_TooLong : PySem.W.subIn K (.ref C_NoUndo) (.ref C_TooLong) = some false)
    (sb_NoUndo_TooMany : PySem.W.subIn K (.ref C_NoUndo) (.ref C_TooMany) = some false)
    (sb_NoUndo_NoLong : PySem.W.subIn K (.ref C_NoUndo) (.ref C_NoLong) = some false)
    (sb_NoUndo_NoNumber : PySem.W.subIn K (.ref C_NoUndo) (.ref C_NoNumber) = some false)
    (sb_NoUndo_NoRow : PySem.W.subIn K (.ref C_NoUndo) (.ref C_NoRow) = some false)
    (sb_NoUndo_NoName : PySem.W.subIn K (.ref C_NoUndo) (.ref C_NoName) = some false)
    (sb_NoUndo_Twice : PySem.W.subIn K (.ref C_NoUndo) (.ref C_Twice) = some false)
    (sb_NoUndo_Used : PySem.W.subIn K (.ref C_NoUndo) (.ref C_Used) = some false)
    (sb_NoUndo_NoGap : PySem.W.subIn K (.ref C_NoUndo) (.ref C_NoGap) = some false)
    (sb_NoUndo_NoTree : PySem.W.subIn K (.ref C_NoUndo) (.ref C_NoTree) = some false)
    (sb_NoUndo_NoFit : PySem.W.subIn K (.ref C_NoUndo) (.ref C_NoFit) = some false)
    (sb_NoUndo_NoMaking : PySem.W.subIn K (.ref C_NoUndo) (.ref C_NoMaking) = some false)
    (sb_NoFit_KindError : PySem.W.subIn K (.ref C_NoFit) (.ref C_KindError) = some true)
    (sb_NoFit_ValueError : PySem.W.subIn K (.ref C_NoFit) (.type "ValueError") = some true)
    (sb_NoFit_NoKind : PySem.W.subIn K (.ref C_NoFit) (.ref C_NoKind) = some false)
    (sb_NoFit_NoText : PySem.W.subIn K (.ref C_NoFit) (.ref C_NoText) = some false)
    (sb_NoFit_NoStep : PySem.W.subIn K (.ref C_NoFit) (.ref C_NoStep) = some false)
    (sb_NoFit_TooLong : PySem.W.subIn K (.ref C_NoFit) (.ref C_TooLong) = some false)
    (sb_NoFit_TooMany : PySem.W.subIn K (.ref C_NoFit) (.ref C_TooMany) = some false)
    (sb_NoFit_NoLong : PySem.W.subIn K (.ref C_NoFit) (.ref C_NoLong) = some false)
    (sb_NoFit_NoNumber : PySem.W.subIn K (.ref C_NoFit) (.ref C_NoNumber) = some false)
    (sb_NoFit_NoRow : PySem.W.subIn K (.ref C_NoFit) (.ref C_NoRow) = some false)
    (sb_NoFit_NoName : PySem.W.subIn K (.ref C_NoFit) (.ref C_NoName) = some false)
    (sb_NoFit_Twice : PySem.W.subIn K (.ref C_NoFit) (.ref C_Twice) = some false)
    (sb_NoFit_Used : PySem.W.subIn K (.ref C_NoFit) (.ref C_Used) = some false)
    (sb_NoFit_NoGap : PySem.W.subIn K (.ref C_NoFit) (.ref C_NoGap) = some false)
    (sb_NoFit_NoTree : PySem.W.subIn K (.ref C_NoFit) (.ref C_NoTree) = some false)
    (sb_NoFit_NoUndo : PySem.W.subIn K (.ref C_NoFit) (.ref C_NoUndo) = some false)
    (sb_NoFit_NoMaking : PySem.W.subIn K (.ref C_NoFit) (.ref C_NoMaking) = some false)
    (sb_NoMaking_KindError : PySem.W.subIn K (.ref C_NoMaking) (.ref C_KindError) = some true)
    (sb_NoMaking_ValueError : PySem.W.subIn K (.ref C_NoMaking) (.type "ValueError") = some true)
    (sb_NoMaking_NoKind : PySem.W.subIn K (.ref C_NoMaking) (.ref C_NoKind) = some false)
    (sb_NoMaking_NoText : PySem.W.subIn K (.ref C_NoMaking) (.ref C_NoText) = some false)
    (sb_NoMaking_NoStep : PySem.W.subIn K (.ref C_NoMaking) (.ref C_NoStep) = some false)
    (sb_NoMaking_TooLong : PySem.W.subIn K (.ref C_NoMaking) (.ref C_TooLong) = some false)
    (sb_NoMaking_TooMany : PySem.W.subIn K (.ref C_NoMaking) (.ref C_TooMany) = some false)
    (sb_NoMaking_NoLong : PySem.W.subIn K (.ref C_NoMaking) (.ref C_NoLong) = some false)
    (sb_NoMaking_NoNumber : PySem.W.subIn K (.ref C_NoMaking) (.ref C_NoNumber) = some false)
    (sb_NoMaking_NoRow : PySem.W.subIn K (.ref C_NoMaking) (.ref C_NoRow) = some false)
    (sb_NoMaking_NoName : PySem.W.subIn K (.ref C_NoMaking) (.ref C_NoName) = some false)
    (sb_NoMaking_Twice : PySem.W.subIn K (.ref C_NoMaking) (.ref C_Twice) = some false)
    (sb_NoMaking_Used : PySem.W.subIn K (.ref C_NoMaking) (.ref C_Used) = some false)
    (sb_NoMaking_NoGap : PySem.W.subIn K (.ref C_NoMaking) (.ref C_NoGap) = some false)
    (sb_NoMaking_NoTree : PySem.W.subIn K (.ref C_NoMaking) (.ref C_NoTree) = some false)
    (sb_NoMaking_NoUndo : PySem.W.subIn K (.ref C_NoMaking) (.ref C_NoUndo) = some false)
    (sb_NoMaking_NoFit : PySem.W.subIn K (.ref C_NoMaking) (.ref C_NoFit) = some false) :
    ∃ fd : FuncData, (∀ (s : Shared) (v : Value), BindsTo s fd ⟨[v], []⟩ [("_law_script", v)]) ∧ ∀ base : Heap, K.In base → base.Ns mainGlobals mg → FnOk l.prog w K mg base CX0 10 fa fd ["_law_script"] (liftSp K (lawSp 63)) := by
  have e := hfa.symm.trans (PySem.W.mg_of X G a_law)
  cases e
  have N__law_pool' := fn_mk (ps := P__law_pool) X G a__law_pool l__law_pool c__law_pool k__law_pool fun _ _ _ _ _ _ us hl => match us, hl with | [_, _], _ => rfl
  have N__law_take' := fn_mk (ps := P__law_take) X G a__law_take l__law_take c__law_take k__law_take fun _ _ _ _ _ _ us hl => match us, hl with | [_, _], _ => rfl
  have N__law_made' := fn_mk (ps := P__law_made) X G a__law_made l__law_made c__law_made k__law_made fun _ _ _ _ _ _ us hl => match us, hl with | [_, _], _ => rfl
  have N__law_kinds' := fn_mk (ps := P__law_kinds) X G a__law_kinds l__law_kinds c__law_kinds k__law_kinds fun _ _ _ _ _ _ us hl => match us, hl with | [_], _ => rfl
  have N_law' := fn_mk (ps := P_law) X G a_law l_law c_law k_law fun _ _ _ _ _ _ us hl => match us, hl with | [_], _ => rfl
  have m_len : mg "len" = none := PySem.W.mg_none_of X G z_len
  have m_isinstance : mg "isinstance" = none := PySem.W.mg_none_of X G z_isinstance
  have m_range : mg "range" = none := PySem.W.mg_none_of X G z_range
  have m_ValueError : mg "ValueError" = none := PySem.W.mg_none_of X G z_ValueError
  have k_NoKind : Cl K mg "NoKind" C_NoKind := ⟨PySem.W.mg_of X G ka_NoKind, kb_NoKind, kd_NoKind, kt_NoKind, kf_NoKind⟩
  have k_NoText : Cl K mg "NoText" C_NoText := ⟨PySem.W.mg_of X G ka_NoText, kb_NoText, kd_NoText, kt_NoText, kf_NoText⟩
  have k_NoStep : Cl K mg "NoStep" C_NoStep := ⟨PySem.W.mg_of X G ka_NoStep, kb_NoStep, kd_NoStep, kt_NoStep, kf_NoStep⟩
  have k_TooLong : Cl K mg "TooLong" C_TooLong := ⟨PySem.W.mg_of X G ka_TooLong, kb_TooLong, kd_TooLong, kt_TooLong, kf_TooLong⟩
  have k_TooMany : Cl K mg "TooMany" C_TooMany := ⟨PySem.W.mg_of X G ka_TooMany, kb_TooMany, kd_TooMany, kt_TooMany, kf_TooMany⟩
  have k_NoLong : Cl K mg "NoLong" C_NoLong := ⟨PySem.W.mg_of X G ka_NoLong, kb_NoLong, kd_NoLong, kt_NoLong, kf_NoLong⟩
  have k_NoNumber : Cl K mg "NoNumber" C_NoNumber := ⟨PySem.W.mg_of X G ka_NoNumber, kb_NoNumber, kd_NoNumber, kt_NoNumber, kf_NoNumber⟩
  have k_NoRow : Cl K mg "NoRow" C_NoRow := ⟨PySem.W.mg_of X G ka_NoRow, kb_NoRow, kd_NoRow, kt_NoRow, kf_NoRow⟩
  have k_NoName : Cl K mg "NoName" C_NoName := ⟨PySem.W.mg_of X G ka_NoName, kb_NoName, kd_NoName, kt_NoName, kf_NoName⟩
  have k_Twice : Cl K mg "Twice" C_Twice := ⟨PySem.W.mg_of X G ka_Twice, kb_Twice, kd_Twice, kt_Twice, kf_Twice⟩
  have k_Used : Cl K mg "Used" C_Used := ⟨PySem.W.mg_of X G ka_Used, kb_Used, kd_Used, kt_Used, kf_Used⟩
  have k_NoGap : Cl K mg "NoGap" C_NoGap := ⟨PySem.W.mg_of X G ka_NoGap, kb_NoGap, kd_NoGap, kt_NoGap, kf_NoGap⟩
  have k_NoTree : Cl K mg "NoTree" C_NoTree := ⟨PySem.W.mg_of X G ka_NoTree, kb_NoTree, kd_NoTree, kt_NoTree, kf_NoTree⟩
  have k_NoUndo : Cl K mg "NoUndo" C_NoUndo := ⟨PySem.W.mg_of X G ka_NoUndo, kb_NoUndo, kd_NoUndo, kt_NoUndo, kf_NoUndo⟩
  have k_NoFit : Cl K mg "NoFit" C_NoFit := ⟨PySem.W.mg_of X G ka_NoFit, kb_NoFit, kd_NoFit, kt_NoFit, kf_NoFit⟩
  have k_NoMaking : Cl K mg "NoMaking" C_NoMaking := ⟨PySem.W.mg_of X G ka_NoMaking, kb_NoMaking, kd_NoMaking, kt_NoMaking, kf_NoMaking⟩
  have k_KindError : Cl K mg "KindError" C_KindError := ⟨PySem.W.mg_of X G ka_KindError, kb_KindError, kd_KindError, kt_KindError, kf_KindError⟩
  have x_NoKind : ExN K mg "NoKind" C_NoKind := ⟨PySem.W.mg_of X G ka_NoKind, kx_NoKind, kk_NoKind, kb_NoKind, kt_NoKind⟩
  have x_NoText : ExN K mg "NoText" C_NoText := ⟨PySem.W.mg_of X G ka_NoText, kx_NoText, kk_NoText, kb_NoText, kt_NoText⟩
  have x_NoStep : ExN K mg "NoStep" C_NoStep := ⟨PySem.W.mg_of X G ka_NoStep, kx_NoStep, kk_NoStep, kb_NoStep, kt_NoStep⟩
  have x_TooLong : ExN K mg "TooLong" C_TooLong := ⟨PySem.W.mg_of X G ka_TooLong, kx_TooLong, kk_TooLong, kb_TooLong, kt_TooLong⟩
  have x_TooMany : ExN K mg "TooMany" C_TooMany := ⟨PySem.W.mg_of X G ka_TooMany, kx_TooMany, kk_TooMany, kb_TooMany, kt_TooMany⟩
  have x_NoLong : ExN K mg "NoLong" C_NoLong := ⟨PySem.W.mg_of X G ka_NoLong, kx_NoLong, kk_NoLong, kb_NoLong, kt_NoLong⟩
  have x_NoNumber : ExN K mg "NoNumber" C_NoNumber := ⟨PySem.W.mg_of X G ka_NoNumber, kx_NoNumber, kk_NoNumber, kb_NoNumber, kt_NoNumber⟩
  have x_NoRow : ExN K mg "NoRow" C_NoRow := ⟨PySem.W.mg_of X G ka_NoRow, kx_NoRow, kk_NoRow, kb_NoRow, kt_NoRow⟩
  have x_NoName : ExN K mg "NoName" C_NoName := ⟨PySem.W.mg_of X G ka_NoName, kx_NoName, kk_NoName, kb_NoName, kt_NoName⟩
  have x_Twice : ExN K mg "Twice" C_Twice := ⟨PySem.W.mg_of X G ka_Twice, kx_Twice, kk_Twice, kb_Twice, kt_Twice⟩
  have x_Used : ExN K mg "Used" C_Used := ⟨PySem.W.mg_of X G ka_Used, kx_Used, kk_Used, kb_Used, kt_Used⟩
  have x_NoGap : ExN K mg "NoGap" C_NoGap := ⟨PySem.W.mg_of X G ka_NoGap, kx_NoGap, kk_NoGap, kb_NoGap, kt_NoGap⟩
  have x_NoTree : ExN K mg "NoTree" C_NoTree := ⟨PySem.W.mg_of X G ka_NoTree, kx_NoTree, kk_NoTree, kb_NoTree, kt_NoTree⟩
  have x_NoUndo : ExN K mg "NoUndo" C_NoUndo := ⟨PySem.W.mg_of X G ka_NoUndo, kx_NoUndo, kk_NoUndo, kb_NoUndo, kt_NoUndo⟩
  have bx_KindError : BaseX K mg "KindError" C_KindError := ⟨PySem.W.mg_of X G ka_KindError, bs_KindError, kt_KindError, br_KindError, bf_KindError⟩
  have xi_NoFit : ExI K mg "NoFit" "place" C_NoFit f_NoFit___init__ _ "NoFit.__init__" s_NoFit___init__ P_NoFit___init__ := ⟨⟨⟨_, _, _, _, _, _, _, _, _, _, _, _, _, _, _, ox_NoFit, hhz_NoFit⟩, os_NoFit, kb_NoFit, kt_NoFit, okz_NoFit⟩, PySem.W.mg_of X G ka_NoFit, a_NoFit___init__, ti_NoFit___init__, onz_NoFit, fun_mk l_NoFit___init__ c_NoFit___init__ k_NoFit___init__, (fun_mk l_NoFit___init__ c_NoFit___init__ k_NoFit___init__).binds (ps := P_NoFit___init__) fun _ _ _ _ _ _ us hl => match us, hl with | [_, _], _ => rfl⟩
  have xi_NoMaking : ExI K mg "NoMaking" "at" C_NoMaking f_NoMaking___init__ _ "NoMaking.__init__" s_NoMaking___init__ P_NoMaking___init__ := ⟨⟨⟨_, _, _, _, _, _, _, _, _, _, _, _, _, _, _, ox_NoMaking, hhz_NoMaking⟩, os_NoMaking, kb_NoMaking, kt_NoMaking, okz_NoMaking⟩, PySem.W.mg_of X G ka_NoMaking, a_NoMaking___init__, ti_NoMaking___init__, onz_NoMaking, fun_mk l_NoMaking___init__ c_NoMaking___init__ k_NoMaking___init__, (fun_mk l_NoMaking___init__ c_NoMaking___init__ k_NoMaking___init__).binds (ps := P_NoMaking___init__) fun _ _ _ _ _ _ us hl => match us, hl with | [_, _], _ => rfl⟩
  have ec_NoKind : ExcC K C_NoKind := ⟨ega_NoKind, egt_NoKind, kb_NoKind, edc_NoKind, ecc_NoKind, spc, tkc, emo_NoKind⟩
  have ec_NoText : ExcC K C_NoText := ⟨ega_NoText, egt_NoText, kb_NoText, edc_NoText, ecc_NoText, spc, tkc, emo_NoText⟩
  have ec_NoStep : ExcC K C_NoStep := ⟨ega_NoStep, egt_NoStep, kb_NoStep, edc_NoStep, ecc_NoStep, spc, tkc, emo_NoStep⟩
  have ec_TooLong : ExcC K C_TooLong := ⟨ega_TooLong, egt_TooLong, kb_TooLong, edc_TooLong, ecc_TooLong, spc, tkc, emo_TooLong⟩
  have ec_TooMany : ExcC K C_TooMany := ⟨ega_TooMany, egt_TooMany, kb_TooMany, edc_TooMany, ecc_TooMany, spc, tkc, emo_TooMany⟩
  have ec_NoLong : ExcC K C_NoLong := ⟨ega_NoLong, egt_NoLong, kb_NoLong, edc_NoLong, ecc_NoLong, spc, tkc, emo_NoLong⟩
  have ec_NoNumber : ExcC K C_NoNumber := ⟨ega_NoNumber, egt_NoNumber, kb_NoNumber, edc_NoNumber, ecc_NoNumber, spc, tkc, emo_NoNumber⟩
  have ec_NoRow : ExcC K C_NoRow := ⟨ega_NoRow, egt_NoRow, kb_NoRow, edc_NoRow, ecc_NoRow, spc, tkc, emo_NoRow⟩
  have ec_NoName : ExcC K C_NoName := ⟨ega_NoName, egt_NoName, kb_NoName, edc_NoName, ecc_NoName, spc, tkc, emo_NoName⟩
  have ec_Twice : ExcC K C_Twice := ⟨ega_Twice, egt_Twice, kb_Twice, edc_Twice, ecc_Twice, spc, tkc, emo_Twice⟩
  have ec_Used : ExcC K C_Used := ⟨ega_Used, egt_Used, kb_Used, edc_Used, ecc_Used, spc, tkc, emo_Used⟩
  have ec_NoGap : ExcC K C_NoGap := ⟨ega_NoGap, egt_NoGap, kb_NoGap, edc_NoGap, ecc_NoGap, spc, tkc, emo_NoGap⟩
  have ec_NoTree : ExcC K C_NoTree := ⟨ega_NoTree, egt_NoTree, kb_NoTree, edc_NoTree, ecc_NoTree, spc, tkc, emo_NoTree⟩
  have ec_NoUndo : ExcC K C_NoUndo := ⟨ega_NoUndo, egt_NoUndo, kb_NoUndo, edc_NoUndo, ecc_NoUndo, spc, tkc, emo_NoUndo⟩
  have ec_NoFit : ExcC K C_NoFit := ⟨ega_NoFit, egt_NoFit, kb_NoFit, edc_NoFit, ecc_NoFit, spc, tkc, emo_NoFit⟩
  have ec_NoMaking : ExcC K C_NoMaking := ⟨ega_NoMaking, egt_NoMaking, kb_NoMaking, edc_NoMaking, ecc_NoMaking, spc, tkc, emo_NoMaking⟩
  let T : Tx K mg := { a__law_pool := _, fd__law_pool := _, n__law_pool := N__law_pool', a__law_take := _, fd__law_take := _, n__law_take := N__law_take', a__law_made := _, fd__law_made := _, n__law_made := N__law_made', a__law_kinds := _, fd__law_kinds := _, n__law_kinds := N__law_kinds', a_law := _, fd_law := _, n_law := N_law', m_len := m_len, m_isinstance := m_isinstance, m_range := m_range, m_ValueError := m_ValueError, bx_KindError := bx_KindError, fI_NoFit := _, fdI_NoFit := _, xi_NoFit := xi_NoFit, fI_NoMaking := _, fdI_NoMaking := _, xi_NoMaking := xi_NoMaking, C_NoKind := C_NoKind, C_NoText := C_NoText, C_NoStep := C_NoStep, C_TooLong := C_TooLong, C_TooMany := C_TooMany, C_NoLong := C_NoLong, C_NoNumber := C_NoNumber, C_NoRow := C_NoRow, C_NoName := C_NoName, C_Twice := C_Twice, C_Used := C_Used, C_NoGap := C_NoGap, C_NoTree := C_NoTree, C_NoUndo := C_NoUndo, C_NoFit := C_NoFit, C_NoMaking := C_NoMaking, C_KindError := C_KindError, x_NoKind := x_NoKind, x_NoText := x_NoText, x_NoStep := x_NoStep, x_TooLong := x_TooLong, x_TooMany := x_TooMany, x_NoLong := x_NoLong, x_NoNumber := x_NoNumber, x_NoRow := x_NoRow, x_NoName := x_NoName, x_Twice := x_Twice, x_Used := x_Used, x_NoGap := x_NoGap, x_NoTree := x_NoTree, x_NoUndo := x_NoUndo, k_NoKind := k_NoKind, k_NoText := k_NoText, k_NoStep := k_NoStep, k_TooLong := k_TooLong, k_TooMany := k_TooMany, k_NoLong := k_NoLong, k_NoNumber := k_NoNumber, k_NoRow := k_NoRow, k_NoName := k_NoName, k_Twice := k_Twice, k_Used := k_Used, k_NoGap := k_NoGap, k_NoTree := k_NoTree, k_NoUndo := k_NoUndo, k_NoFit := k_NoFit, k_NoMaking := k_NoMaking, k_KindError := k_KindError, ec_NoKind := ec_NoKind, ec_NoText := ec_NoText, ec_NoStep := ec_NoStep, ec_TooLong := ec_TooLong, ec_TooMany := ec_TooMany, ec_NoLong := ec_NoLong, ec_NoNumber := ec_NoNumber, ec_NoRow := ec_NoRow, ec_NoName := ec_NoName, ec_Twice := ec_Twice, ec_Used := ec_Used, ec_NoGap := ec_NoGap, ec_NoTree := ec_NoTree, ec_NoUndo := ec_NoUndo, ec_NoFit := ec_NoFit, ec_NoMaking := ec_NoMaking, sb_NoKind_KindError := sb_NoKind_KindError, sb_NoKind_ValueError := sb_NoKind_ValueError, sb_NoKind_NoText := sb_NoKind_NoText, sb_NoKind_NoStep := sb_NoKind_NoStep, sb_NoKind_TooLong := sb_NoKind_TooLong, sb_NoKind_TooMany := sb_NoKind_TooMany, sb_NoKind_NoLong := sb_NoKind_NoLong, sb_NoKind_NoNumber := sb_NoKind_NoNumber, sb_NoKind_NoRow := sb_NoKind_NoRow, sb_NoKind_NoName := sb_NoKind_NoName, sb_NoKind_Twice := sb_NoKind_Twice, sb_NoKind_Used := sb_NoKind_Used, sb_NoKind_NoGap := sb_NoKind_NoGap, sb_NoKind_NoTree := sb_NoKind_NoTree, sb_NoKind_NoUndo := sb_NoKind_NoUndo, sb_NoKind_NoFit := sb_NoKind_NoFit, sb_NoKind_NoMaking := sb_NoKind_NoMaking, sb_NoText_KindError := sb_NoText_KindError, sb_NoText_ValueError := sb_NoText_ValueError, sb_NoText_NoKind := sb_NoText_NoKind, sb_NoText_NoStep := sb_NoText_NoStep, sb_NoText_TooLong := sb_NoText_TooLong, sb_NoText_TooMany := sb_NoText_TooMany, sb_NoText_NoLong := sb_NoText_NoLong, sb_NoText_NoNumber := sb_NoText_NoNumber, sb_NoText_NoRow := sb_NoText_NoRow, sb_NoText_NoName := sb_NoText_NoName, sb_NoText_Twice := sb_NoText_Twice, sb_NoText_Used := sb_NoText_Used, sb_NoText_NoGap := sb_NoText_NoGap, sb_NoText_NoTree := sb_NoText_NoTree, sb_NoText_NoUndo := sb_NoText_NoUndo, sb_NoText_NoFit := sb_NoText_NoFit, sb_NoText_NoMaking := sb_NoText_NoMaking, sb_NoStep_KindError := sb_NoStep_KindError, sb_NoStep_ValueError := sb_NoStep_ValueError, sb_NoStep_NoKind := sb_NoStep_NoKind, sb_NoStep_NoText := sb_NoStep_NoText, sb_NoStep_TooLong := sb_NoStep_TooLong, sb_NoStep_TooMany := sb_NoStep_TooMany, sb_NoStep_NoLong := sb_NoStep_NoLong, sb_NoStep_NoNumber := sb_NoStep_NoNumber, sb_NoStep_NoRow := sb_NoStep_NoRow, sb_NoStep_NoName := sb_NoStep_NoName, sb_NoStep_Twice := sb_NoStep_Twice, sb_NoStep_Used := sb_NoStep_Used, sb_NoStep_NoGap := sb_NoStep_NoGap, sb_NoStep_NoTree := sb_NoStep_NoTree, sb_NoStep_NoUndo := sb_NoStep_NoUndo, sb_NoStep_NoFit := sb_NoStep_NoFit, sb_NoStep_NoMaking := sb_NoStep_NoMaking, sb_TooLong_KindError := sb_TooLong_KindError, sb_TooLong_ValueError := sb_TooLong_ValueError, sb_TooLong_NoKind := sb_TooLong_NoKind, sb_TooLong_NoText := sb_TooLong_NoText, sb_TooLong_NoStep := sb_TooLong_NoStep, sb_TooLong_TooMany := sb_TooLong_TooMany, sb_TooLong_NoLong := sb_TooLong_NoLong, sb_TooLong_NoNumber := sb_TooLong_NoNumber, sb_TooLong_NoRow := sb_TooLong_NoRow, sb_TooLong_NoName := sb_TooLong_NoName, sb_TooLong_Twice := sb_TooLong_Twice, sb_TooLong_Used := sb_TooLong_Used, sb_TooLong_NoGap := sb_TooLong_NoGap, sb_TooLong_NoTree := sb_TooLong_NoTree, sb_TooLong_NoUndo := sb_TooLong_NoUndo, sb_TooLong_NoFit := sb_TooLong_NoFit, sb_TooLong_NoMaking := sb_TooLong_NoMaking, sb_TooMany_KindError := sb_TooMany_KindError, sb_TooMany_ValueError := sb_TooMany_ValueError, sb_TooMany_NoKind := sb_TooMany_NoKind, sb_TooMany_NoText := sb_TooMany_NoText, sb_TooMany_NoStep := sb_TooMany_NoStep, sb_TooMany_TooLong := sb_TooMany_TooLong, sb_TooMany_NoLong := sb_TooMany_NoLong, sb_TooMany_NoNumber := sb_TooMany_NoNumber, sb_TooMany_NoRow := sb_TooMany_NoRow, sb_TooMany_NoName := sb_TooMany_NoName, sb_TooMany_Twice := sb_TooMany_Twice, sb_TooMany_Used := sb_TooMany_Used, sb_TooMany_NoGap := sb_TooMany_NoGap, sb_TooMany_NoTree := sb_TooMany_NoTree, sb_TooMany_NoUndo := sb_TooMany_NoUndo, sb_TooMany_NoFit := sb_TooMany_NoFit, sb_TooMany_NoMaking := sb_TooMany_NoMaking, sb_NoLong_KindError := sb_NoLong_KindError, sb_NoLong_ValueError := sb_NoLong_ValueError, sb_NoLong_NoKind := sb_NoLong_NoKind, sb_NoLong_NoText := sb_NoLong_NoText, sb_NoLong_NoStep := sb_NoLong_NoStep, sb_NoLong_TooLong := sb_NoLong_TooLong, sb_NoLong_TooMany := sb_NoLong_TooMany, sb_NoLong_NoNumber := sb_NoLong_NoNumber, sb_NoLong_NoRow := sb_NoLong_NoRow, sb_NoLong_NoName := sb_NoLong_NoName, sb_NoLong_Twice := sb_NoLong_Twice, sb_NoLong_Used := sb_NoLong_Used, sb_NoLong_NoGap := sb_NoLong_NoGap, sb_NoLong_NoTree := sb_NoLong_NoTree, sb_NoLong_NoUndo := sb_NoLong_NoUndo, sb_NoLong_NoFit := sb_NoLong_NoFit, sb_NoLong_NoMaking := sb_NoLong_NoMaking, sb_NoNumber_KindError := sb_NoNumber_KindError, sb_NoNumber_ValueError := sb_NoNumber_ValueError, sb_NoNumber_NoKind := sb_NoNumber_NoKind, sb_NoNumber_NoText := sb_NoNumber_NoText, sb_NoNumber_NoStep := sb_NoNumber_NoStep, sb_NoNumber_TooLong := sb_NoNumber_TooLong, sb_NoNumber_TooMany := sb_NoNumber_TooMany, sb_NoNumber_NoLong := sb_NoNumber_NoLong, sb_NoNumber_NoRow := sb_NoNumber_NoRow, sb_NoNumber_NoName := sb_NoNumber_NoName, sb_NoNumber_Twice := sb_NoNumber_Twice, sb_NoNumber_Used := sb_NoNumber_Used, sb_NoNumber_NoGap := sb_NoNumber_NoGap, sb_NoNumber_NoTree := sb_NoNumber_NoTree, sb_NoNumber_NoUndo := sb_NoNumber_NoUndo, sb_NoNumber_NoFit := sb_NoNumber_NoFit, sb_NoNumber_NoMaking := sb_NoNumber_NoMaking, sb_NoRow_KindError := sb_NoRow_KindError, sb_NoRow_ValueError := sb_NoRow_ValueError, sb_NoRow_NoKind := sb_NoRow_NoKind, sb_NoRow_NoText := sb_NoRow_NoText, sb_NoRow_NoStep := sb_NoRow_NoStep, sb_NoRow_TooLong := sb_NoRow_TooLong, sb_NoRow_TooMany := sb_NoRow_TooMany, sb_NoRow_NoLong := sb_NoRow_NoLong, sb_NoRow_NoNumber := sb_NoRow_NoNumber, sb_NoRow_NoName := sb_NoRow_NoName, sb_NoRow_Twice := sb_NoRow_Twice, sb_NoRow_Used := sb_NoRow_Used, sb_NoRow_NoGap := sb_NoRow_NoGap, sb_NoRow_NoTree := sb_NoRow_NoTree, sb_NoRow_NoUndo := sb_NoRow_NoUndo, sb_NoRow_NoFit := sb_NoRow_NoFit, sb_NoRow_NoMaking := sb_NoRow_NoMaking, sb_NoName_KindError := sb_NoName_KindError, sb_NoName_ValueError := sb_NoName_ValueError, sb_NoName_NoKind := sb_NoName_NoKind, sb_NoName_NoText := sb_NoName_NoText, sb_NoName_NoStep := sb_NoName_NoStep, sb_NoName_TooLong := sb_NoName_TooLong, sb_NoName_TooMany := sb_NoName_TooMany, sb_NoName_NoLong := sb_NoName_NoLong, sb_NoName_NoNumber := sb_NoName_NoNumber, sb_NoName_NoRow := sb_NoName_NoRow, sb_NoName_Twice := sb_NoName_Twice, sb_NoName_Used := sb_NoName_Used, sb_NoName_NoGap := sb_NoName_NoGap, sb_NoName_NoTree := sb_NoName_NoTree, sb_NoName_NoUndo := sb_NoName_NoUndo, sb_NoName_NoFit := sb_NoName_NoFit, sb_NoName_NoMaking := sb_NoName_NoMaking, sb_Twice_KindError := sb_Twice_KindError, sb_Twice_ValueError := sb_Twice_ValueError, sb_Twice_NoKind := sb_Twice_NoKind, sb_Twice_NoText := sb_Twice_NoText, sb_Twice_NoStep := sb_Twice_NoStep, sb_Twice_TooLong := sb_Twice_TooLong, sb_Twice_TooMany := sb_Twice_TooMany, sb_Twice_NoLong := sb_Twice_NoLong, sb_Twice_NoNumber := sb_Twice_NoNumber, sb_Twice_NoRow := sb_Twice_NoRow, sb_Twice_NoName := sb_Twice_NoName, sb_Twice_Used := sb_Twice_Used, sb_Twice_NoGap := sb_Twice_NoGap, sb_Twice_NoTree := sb_Twice_NoTree, sb_Twice_NoUndo := sb_Twice_NoUndo, sb_Twice_NoFit := sb_Twice_NoFit, sb_Twice_NoMaking := sb_Twice_NoMaking, sb_Used_KindError := sb_Used_KindError, sb_Used_ValueError := sb_Used_ValueError, sb_Used_NoKind := sb_Used_NoKind, sb_Used_NoText := sb_Used_NoText, sb_Used_NoStep := sb_Used_NoStep, sb_Used_TooLong := sb_Used_TooLong, sb_Used_TooMany := sb_Used_TooMany, sb_Used_NoLong := sb_Used_NoLong, sb_Used_NoNumber := sb_Used_NoNumber, sb_Used_NoRow := sb_Used_NoRow, sb_Used_NoName := sb_Used_NoName, sb_Used_Twice := sb_Used_Twice, sb_Used_NoGap := sb_Used_NoGap, sb_Used_NoTree := sb_Used_NoTree, sb_Used_NoUndo := sb_Used_NoUndo, sb_Used_NoFit := sb_Used_NoFit, sb_Used_NoMaking := sb_Used_NoMaking, sb_NoGap_KindError := sb_NoGap_KindError, sb_NoGap_ValueError := sb_NoGap_ValueError, sb_NoGap_NoKind := sb_NoGap_NoKind, sb_NoGap_NoText := sb_NoGap_NoText, sb_NoGap_NoStep := sb_NoGap_NoStep, sb_NoGap_TooLong := sb_NoGap_TooLong, sb_NoGap_TooMany := sb_NoGap_TooMany, sb_NoGap_NoLong := sb_NoGap_NoLong, sb_NoGap_NoNumber := sb_NoGap_NoNumber, sb_NoGap_NoRow := sb_NoGap_NoRow, sb_NoGap_NoName := sb_NoGap_NoName, sb_NoGap_Twice := sb_NoGap_Twice, sb_NoGap_Used := sb_NoGap_Used, sb_NoGap_NoTree := sb_NoGap_NoTree, sb_NoGap_NoUndo := sb_NoGap_NoUndo, sb_NoGap_NoFit := sb_NoGap_NoFit, sb_NoGap_NoMaking := sb_NoGap_NoMaking, sb_NoTree_KindError := sb_NoTree_KindError, sb_NoTree_ValueError := sb_NoTree_ValueError, sb_NoTree_NoKind := sb_NoTree_NoKind, sb_NoTree_NoText := sb_NoTree_NoText, sb_NoTree_NoStep := sb_NoTree_NoStep, sb_NoTree_TooLong := sb_NoTree_TooLong, sb_NoTree_TooMany := sb_NoTree_TooMany, sb_NoTree_NoLong := sb_NoTree_NoLong, sb_NoTree_NoNumber := sb_NoTree_NoNumber, sb_NoTree_NoRow := sb_NoTree_NoRow, sb_NoTree_NoName := sb_NoTree_NoName, sb_NoTree_Twice := sb_NoTree_Twice, sb_NoTree_Used := sb_NoTree_Used, sb_NoTree_NoGap := sb_NoTree_NoGap, sb_NoTree_NoUndo := sb_NoTree_NoUndo, sb_NoTree_NoFit := sb_NoTree_NoFit, sb_NoTree_NoMaking := sb_NoTree_NoMaking, sb_NoUndo_KindError := sb_NoUndo_KindError, sb_NoUndo_ValueError := sb_NoUndo_ValueError, sb_NoUndo_NoKind := sb_NoUndo_NoKind, sb_NoUndo_NoText := sb_NoUndo_NoText, sb_NoUndo_NoStep := sb_NoUndo_NoStep, sb_NoUndo_TooLong := sb_NoUndo_TooLong, sb_NoUndo_TooMany := sb_NoUndo_TooMany, sb_NoUndo_NoLong := sb_NoUndo_NoLong, sb_NoUndo_NoNumber := sb_NoUndo_NoNumber, sb_NoUndo_NoRow := sb_NoUndo_NoRow, sb_NoUndo_NoName := sb_NoUndo_NoName, sb_NoUndo_Twice := sb_NoUndo_Twice, sb_NoUndo_Used := sb_NoUndo_Used, sb_NoUndo_NoGap := sb_NoUndo_NoGap, sb_NoUndo_NoTree := sb_NoUndo_NoTree, sb_NoUndo_NoFit := sb_NoUndo_NoFit, sb_NoUndo_NoMaking := sb_NoUndo_NoMaking, sb_NoFit_KindError := sb_NoFit_KindError, sb_NoFit_ValueError := sb_NoFit_ValueError, sb_NoFit_NoKind := sb_NoFit_NoKind, sb_NoFit_NoText := sb_NoFit_NoText, sb_NoFit_NoStep := sb_NoFit_NoStep, sb_NoFit_TooLong := sb_NoFit_TooLong, sb_NoFit_TooMany := sb_NoFit_TooMany, sb_NoFit_NoLong := sb_NoFit_NoLong, sb_NoFit_NoNumber := sb_NoFit_NoNumber, sb_NoFit_NoRow := sb_NoFit_NoRow, sb_NoFit_NoName := sb_NoFit_NoName, sb_NoFit_Twice := sb_NoFit_Twice, sb_NoFit_Used := sb_NoFit_Used, sb_NoFit_NoGap := sb_NoFit_NoGap, sb_NoFit_NoTree := sb_NoFit_NoTree, sb_NoFit_NoUndo := sb_NoFit_NoUndo, sb_NoFit_NoMaking := sb_NoFit_NoMaking, sb_NoMaking_KindError := sb_NoMaking_KindError, sb_NoMaking_ValueError := sb_NoMaking_ValueError, sb_NoMaking_NoKind := sb_NoMaking_NoKind, sb_NoMaking_NoText := sb_NoMaking_NoText, sb_NoMaking_NoStep := sb_NoMaking_NoStep, sb_NoMaking_TooLong := sb_NoMaking_TooLong, sb_NoMaking_TooMany := sb_NoMaking_TooMany, sb_NoMaking_NoLong := sb_NoMaking_NoLong, sb_NoMaking_NoNumber := sb_NoMaking_NoNumber, sb_NoMaking_NoRow := sb_NoMaking_NoRow, sb_NoMaking_NoName := sb_NoMaking_NoName, sb_NoMaking_Twice := sb_NoMaking_Twice, sb_NoMaking_Used := sb_NoMaking_Used, sb_NoMaking_NoGap := sb_NoMaking_NoGap, sb_NoMaking_NoTree := sb_NoMaking_NoTree, sb_NoMaking_NoUndo := sb_NoMaking_NoUndo, sb_NoMaking_NoFit := sb_NoMaking_NoFit }
  exact ⟨_, fun s v => .of_eq rfl, fun base _ _ => ok_law T⟩
end Kf
open PySem PySem.W PyProof.Rows
set_option maxHeartbeats 0 in
theorem PySem.Challenge.cw_kindfill_k13_refusals_holds : PySem.Challenge.rw_kindfill_k13_refusals.Holds := by
  w_on; o_law; k_head; (case hw => w_witness2)
  k_fill
  refine L2.walk_of (l := PySem.Challenge.rw_kindfill_k13_refusals) (n := 63) (k := 10) (x := "_law_script") (CX := fun _ => L2.CX0) (sp := fun w => Kf.liftSp _ (Kf.lawSp 63)) rfl (by decide) rfl ⟨rfl, by decide, by decide⟩ (fun w h Y => PySem.W.kIn_of Y) ?F (fun _ _ a ns hl _ hS => Kf.law_start hl hS) (fun _ _ _ _ _ h => h)
  case F =>
    intro w mg fa h KX G hmg
    refine' Kf.all_mk KX G hmg ?a__law_pool ?l__law_pool ?c__law_pool ?k__law_pool ?a__law_take ?l__law_take ?c__law_take ?k__law_take ?a__law_made ?l__law_made ?c__law_made ?k__law_made ?a__law_kinds ?l__law_kinds ?c__law_kinds ?k__law_kinds ?a_law ?l_law ?c_law ?k_law ?z_len ?z_isinstance ?z_range ?z_ValueError ?ka_NoKind ?kb_NoKind ?kt_NoKind ?ka_NoText ?kb_NoText ?kt_NoText ?ka_NoStep ?kb_NoStep ?kt_NoStep ?ka_TooLong ?kb_TooLong ?kt_TooLong ?ka_TooMany ?kb_TooMany ?kt_TooMany ?ka_NoLong ?kb_NoLong ?kt_NoLong ?ka_NoNumber ?kb_NoNumber ?kt_NoNumber ?ka_NoRow ?kb_NoRow ?kt_NoRow ?ka_NoName ?kb_NoName ?kt_NoName ?ka_Twice ?kb_Twice ?kt_Twice ?ka_Used ?kb_Used ?kt_Used ?ka_NoGap ?kb_NoGap ?kt_NoGap ?ka_NoTree ?kb_NoTree ?kt_NoTree ?ka_NoUndo ?kb_NoUndo ?kt_NoUndo ?ka_NoFit ?kb_NoFit ?kt_NoFit ?ka_NoMaking ?kb_NoMaking ?kt_NoMaking ?ka_KindError ?kb_KindError ?kt_KindError ?kd_NoKind ?kf_NoKind ?kd_NoText ?kf_NoText ?kd_NoStep ?kf_NoStep ?kd_TooLong ?kf_TooLong ?kd_TooMany ?kf_TooMany ?kd_NoLong ?kf_NoLong ?kd_NoNumber ?kf_NoNumber ?kd_NoRow ?kf_NoRow ?kd_NoName ?kf_NoName ?kd_Twice ?kf_Twice ?kd_Used ?kf_Used ?kd_NoGap ?kf_NoGap ?kd_NoTree ?kf_NoTree ?kd_NoUndo ?kf_NoUndo ?kd_NoFit ?kf_NoFit ?kd_NoMaking ?kf_NoMaking ?kd_KindError ?kf_KindError ?kk_NoKind ?kx_NoKind ?kk_NoText ?kx_NoText ?kk_NoStep ?kx_NoStep ?kk_TooLong ?kx_TooLong ?kk_TooMany ?kx_TooMany ?kk_NoLong ?kx_NoLong ?kk_NoNumber ?kx_NoNumber ?kk_NoRow ?kx_NoRow ?kk_NoName ?kx_NoName ?kk_Twice ?kx_Twice ?kk_Used ?kx_Used ?kk_NoGap ?kx_NoGap ?kk_NoTree ?kx_NoTree ?kk_NoUndo ?kx_NoUndo ?bs_KindError ?br_KindError ?bf_KindError ?ox_NoFit ?hhz_NoFit ?os_NoFit ?okz_NoFit ?onz_NoFit ?a_NoFit___init__ ?ti_NoFit___init__ ?l_NoFit___init__ ?c_NoFit___init__ ?k_NoFit___init__ ?ox_NoMaking ?hhz_NoMaking ?os_NoMaking ?okz_NoMaking ?onz_NoMaking ?a_NoMaking___init__ ?ti_NoMaking___init__ ?l_NoMaking___init__ ?c_NoMaking___init__ ?k_NoMaking___init__ ?ega_NoKind ?egt_NoKind ?edc_NoKind ?ecc_NoKind ?emo_NoKind ?ega_NoText ?egt_NoText ?edc_NoText ?ecc_NoText ?emo_NoText ?ega_NoStep ?egt_NoStep ?edc_NoStep ?ecc_NoStep ?emo_NoStep ?ega_TooLong ?egt_TooLong ?edc_TooLong ?ecc_TooLong ?emo_TooLong ?ega_TooMany ?egt_TooMany ?edc_TooMany ?ecc_TooMany ?emo_TooMany ?ega_NoLong ?egt_NoLong ?edc_NoLong ?ecc_NoLong ?emo_NoLong ?ega_NoNumber ?egt_NoNumber ?edc_NoNumber ?ecc_NoNumber ?emo_NoNumber ?ega_NoRow ?egt_NoRow ?edc_NoRow ?ecc_NoRow ?emo_NoRow ?ega_NoName ?egt_NoName ?edc_NoName ?ecc_NoName ?emo_NoName ?ega_Twice ?egt_Twice ?edc_Twice ?ecc_Twice ?emo_Twice ?ega_Used ?egt_Used ?edc_Used ?ecc_Used ?emo_Used ?ega_NoGap ?egt_NoGap ?edc_NoGap ?ecc_NoGap ?emo_NoGap ?ega_NoTree ?egt_NoTree ?edc_NoTree ?ecc_NoTree ?emo_NoTree ?ega_NoUndo ?egt_NoUndo ?edc_NoUndo ?ecc_NoUndo ?emo_NoUndo ?ega_NoFit ?egt_NoFit ?edc_NoFit ?ecc_NoFit ?emo_NoFit ?ega_NoMaking ?egt_NoMaking ?edc_NoMaking ?ecc_NoMaking ?emo_NoMaking ?spc ?tkc ?sb_NoKind_KindError ?sb_NoKind_ValueError ?sb_NoKind_NoText ?sb_NoKind_NoStep ?sb_NoKind_TooLong ?sb_NoKind_TooMany ?sb_NoKind_NoLong ?sb_NoKind_NoNumber ?sb_NoKind_NoRow ?sb_NoKind_NoName ?sb_NoKind_Twice ?sb_NoKind_Used ?sb_NoKind_NoGap ?sb_NoKind_NoTree ?sb_NoKind_NoUndo ?sb_NoKind_NoFit ?sb_NoKind_NoMaking ?sb_NoText_KindError ?sb_NoText_ValueError ?sb_NoText_NoKind ?sb_NoText_NoStep ?sb_NoText_TooLong ?sb_NoText_TooMany ?sb_NoText_NoLong ?sb_NoText_NoNumber ?sb_NoText_NoRow ?sb_NoText_NoName ?sb_NoText_Twice ?sb_NoText_Used ?sb_NoText_NoGap ?sb_NoText_NoTree ?sb_NoText_NoUndo ?sb_NoText_NoFit ?sb_NoText_NoMaking ?sb_NoStep_KindError ?sb_NoStep_ValueError ?sb_NoStep_NoKind ?sb_NoStep_NoText ?sb_NoStep_TooLong ?sb_NoStep_TooMany ?sb_NoStep_NoLong ?sb_NoStep_NoNumber ?sb_NoStep_NoRow ?sb_NoStep_NoName ?sb_NoStep_Twice ?sb_NoStep_Used ?sb_NoStep_NoGap ?sb_NoStep_NoTree ?sb_NoStep_NoUndo ?sb_NoStep_NoFit ?sb_NoStep_NoMaking ?sb_TooLong_KindError ?sb_TooLong_ValueError ?sb_TooLong_NoKind ?sb_TooLong_NoText ?sb_TooLong_NoStep ?sb_TooLong_TooMany ?sb_TooLong_NoLong ?sb_TooLong_NoNumber ?sb_TooLong_NoRow ?sb_TooLong_NoName ?sb_TooLong_Twice ?sb_TooLong_Used ?sb_TooLong_NoGap ?sb_TooLong_NoTree ?sb_TooLong_NoUndo ?sb_TooLong_NoFit ?sb_TooLong_NoMaking ?sb_TooMany_KindError ?sb_TooMany_ValueError ?sb_TooMany_NoKind ?sb_TooMany_NoText ?sb_TooMany_NoStep ?sb_TooMany_TooLong ?sb_TooMany_NoLong ?sb_TooMany_NoNumber ?sb_TooMany_NoRow ?sb_TooMany_NoName ?sb_TooMany_Twice ?sb_TooMany_Used ?sb_TooMany_NoGap ?sb_TooMany_NoTree ?sb_TooMany_NoUndo ?sb_TooMany_NoFit ?sb_TooMany_NoMaking ?sb_NoLong_KindError ?sb_NoLong_ValueError ?sb_NoLong_NoKind ?sb_NoLong_NoText ?sb_NoLong_NoStep ?sb_NoLong_TooLong ?sb_NoLong_TooMany ?sb_NoLong_NoNumber ?sb_NoLong_NoRow ?sb_NoLong_NoName ?sb_NoLong_Twice ?sb_NoLong_Used ?sb_NoLong_NoGap ?sb_NoLong_NoTree ?sb_NoLong_NoUndo ?sb_NoLong_NoFit ?sb_NoLong_NoMaking ?sb_NoNumber_KindError ?sb_NoNumber_ValueError ?sb_NoNumber_NoKind ?sb_NoNumber_NoText ?sb_NoNumber_NoStep ?sb_NoNumber_TooLong ?sb_NoNumber_TooMany ?sb_NoNumber_NoLong ?sb_NoNumber_NoRow ?sb_NoNumber_NoName ?sb_NoNumber_Twice ?sb_NoNumber_Used ?sb_NoNumber_NoGap ?sb_NoNumber_NoTree ?sb_NoNumber_NoUndo ?sb_NoNumber_NoFit ?sb_NoNumber_NoMaking ?sb_NoRow_KindError ?sb_NoRow_ValueError ?sb_NoRow_NoKind ?sb_NoRow_NoText ?sb_NoRow_NoStep ?sb_NoRow_TooLong ?sb_NoRow_TooMany ?sb_NoRow_NoLong ?sb_NoRow_NoNumber ?sb_NoRow_NoName ?sb_NoRow_Twice ?sb_NoRow_Used ?sb_NoRow_NoGap ?sb_NoRow_NoTree ?sb_NoRow_NoUndo ?sb_NoRow_NoFit ?sb_NoRow_NoMaking ?sb_NoName_KindError ?sb_NoName_ValueError ?sb_NoName_NoKind ?sb_NoName_NoText ?sb_NoName_NoStep ?sb_NoName_TooLong ?sb_NoName_TooMany ?sb_NoName_NoLong ?sb_NoName_NoNumber ?sb_NoName_NoRow ?sb_NoName_Twice ?sb_NoName_Used ?sb_NoName_NoGap ?sb_NoName_NoTree ?sb_NoName_NoUndo ?sb_NoName_NoFit ?sb_NoName_NoMaking ?sb_Twice_KindError ?sb_Twice_ValueError ?sb_Twice_NoKind ?sb_Twice_NoText ?sb_Twice_NoStep ?sb_Twice_TooLong ?sb_Twice_TooMany ?sb_Twice_NoLong ?sb_Twice_NoNumber ?sb_Twice_NoRow ?sb_Twice_NoName ?sb_Twice_Used ?sb_Twice_NoGap ?sb_Twice_NoTree ?sb_Twice_NoUndo ?sb_Twice_NoFit ?sb_Twice_NoMaking ?sb_Used_KindError ?sb_Used_ValueError ?sb_Used_NoKind ?sb_Used_NoText ?sb_Used_NoStep ?sb_Used_TooLong ?sb_Used_TooMany ?sb_Used_NoLong ?sb_Used_NoNumber ?sb_Used_NoRow ?sb_Used_NoName ?sb_Used_Twice ?sb_Used_NoGap ?sb_Used_NoTree ?sb_Used_NoUndo ?sb_Used_NoFit ?sb_Used_NoMaking ?sb_NoGap_KindError ?sb_NoGap_ValueError ?sb_NoGap_NoKind ?sb_NoGap_NoText ?sb_NoGap_NoStep ?sb_NoGap_TooLong ?sb_NoGap_TooMany ?sb_NoGap_NoLong ?sb_NoGap_NoNumber ?sb_NoGap_NoRow ?sb_NoGap_NoName ?sb_NoGap_Twice ?sb_NoGap_Used ?sb_NoGap_NoTree ?sb_NoGap_NoUndo ?sb_NoGap_NoFit ?sb_NoGap_NoMaking ?sb_NoTree_KindError ?sb_NoTree_ValueError ?sb_NoTree_NoKind ?sb_NoTree_NoText ?sb_NoTree_NoStep ?sb_NoTree_TooLong ?sb_NoTree_TooMany ?sb_NoTree_NoLong ?sb_NoTree_NoNumber ?sb_NoTree_NoRow ?sb_NoTree_NoName ?sb_NoTree_Twice ?sb_NoTree_Used ?sb_NoTree_NoGap ?sb_NoTree_NoUndo ?sb_NoTree_NoFit ?sb_NoTree_NoMaking ?sb_NoUndo_KindError ?sb_NoUndo_ValueError ?sb_NoUndo_NoKind ?sb_NoUndo_NoText ?sb_NoUndo_NoStep ?sb_NoUndo_TooLong ?sb_NoUndo_TooMany ?sb_NoUndo_NoLong ?sb_NoUndo_NoNumber ?sb_NoUndo_NoRow ?sb_NoUndo_NoName ?sb_NoUndo_Twice ?sb_NoUndo_Used ?sb_NoUndo_NoGap ?sb_NoUndo_NoTree ?sb_NoUndo_NoFit ?sb_NoUndo_NoMaking ?sb_NoFit_KindError ?sb_NoFit_ValueError ?sb_NoFit_NoKind ?sb_NoFit_NoText ?sb_NoFit_NoStep ?sb_NoFit_TooLong ?sb_NoFit_TooMany ?sb_NoFit_NoLong ?sb_NoFit_NoNumber ?sb_NoFit_NoRow ?sb_NoFit_NoName ?sb_NoFit_Twice ?sb_NoFit_Used ?sb_NoFit_NoGap ?sb_NoFit_NoTree ?sb_NoFit_NoUndo ?sb_NoFit_NoMaking ?sb_NoMaking_KindError ?sb_NoMaking_ValueError ?sb_NoMaking_NoKind ?sb_NoMaking_NoText ?sb_NoMaking_NoStep ?sb_NoMaking_TooLong ?sb_NoMaking_TooMany ?sb_NoMaking_NoLong ?sb_NoMaking_NoNumber ?sb_NoMaking_NoRow ?sb_NoMaking_NoName ?sb_NoMaking_Twice ?sb_NoMaking_Used ?sb_NoMaking_NoGap ?sb_NoMaking_NoTree ?sb_NoMaking_NoUndo ?sb_NoMaking_NoFit
    (case a__law_pool => k_is)
    (case l__law_pool => k_is)
    (case c__law_pool => k_is)
    (case k__law_pool => k_is)
    (case a__law_take => k_is)
    (case l__law_take => k_is)
    (case c__law_take => k_is)
    (case k__law_take => k_is)
    (case a__law_made => k_is)
    (case l__law_made => k_is)
    (case c__law_made => k_is)
    (case k__law_made => k_is)
    (case a__law_kinds => k_is)
    (case l__law_kinds => k_is)
    (case c__law_kinds => k_is)
    (case k__law_kinds => k_is)
    (case a_law => k_is)
    (case l_law => k_is)
    (case c_law => k_is)
    (case k_law => k_is)
    (case z_len => k_is)
    (case z_isinstance => k_is)
    (case z_range => k_is)
    (case z_ValueError => k_is)
    (case ka_NoKind => k_is)
    (case kb_NoKind => k_is)
    (case kt_NoKind => k_is)
    (case ka_NoText => k_is)
    (case kb_NoText => k_is)
    (case kt_NoText => k_is)
    (case ka_NoStep => k_is)
    (case kb_NoStep => k_is)
    (case kt_NoStep => k_is)
    (case ka_TooLong => k_is)
    (case kb_TooLong => k_is)
    (case kt_TooLong => k_is)
    (case ka_TooMany => k_is)
    (case kb_TooMany => k_is)
    (case kt_TooMany => k_is)
    (case ka_NoLong => k_is)
    (case kb_NoLong => k_is)
    (case kt_NoLong => k_is)
    (case ka_NoNumber => k_is)
    (case kb_NoNumber => k_is)
    (case kt_NoNumber => k_is)
    (case ka_NoRow => k_is)
    (case kb_NoRow => k_is)
    (case kt_NoRow => k_is)
    (case ka_NoName => k_is)
    (case kb_NoName => k_is)
    (case kt_NoName => k_is)
    (case ka_Twice => k_is)
    (case kb_Twice => k_is)
    (case kt_Twice => k_is)
    (case ka_Used => k_is)
    (case kb_Used => k_is)
    (case kt_Used => k_is)
    (case ka_NoGap => k_is)
    (case kb_NoGap => k_is)
    (case kt_NoGap => k_is)
    (case ka_NoTree => k_is)
    (case kb_NoTree => k_is)
    (case kt_NoTree => k_is)
    (case ka_NoUndo => k_is)
    (case kb_NoUndo => k_is)
    (case kt_NoUndo => k_is)
    (case ka_NoFit => k_is)
    (case kb_NoFit => k_is)
    (case kt_NoFit => k_is)
    (case ka_NoMaking => k_is)
    (case kb_NoMaking => k_is)
    (case kt_NoMaking => k_is)
    (case ka_KindError => k_is)
    (case kb_KindError => k_is)
    (case kt_KindError => k_is)
    (case kd_NoKind => k_is)
    (case kf_NoKind => k_is)
    (case kd_NoText => k_is)
    (case kf_NoText => k_is)
    (case kd_NoStep => k_is)
    (case kf_NoStep => k_is)
    (case kd_TooLong => k_is)
    (case kf_TooLong => k_is)
    (case kd_TooMany => k_is)
    (case kf_TooMany => k_is)
    (case kd_NoLong => k_is)
    (case kf_NoLong => k_is)
    (case kd_NoNumber => k_is)
    (case kf_NoNumber => k_is)
    (case kd_NoRow => k_is)
    (case kf_NoRow => k_is)
    (case kd_NoName => k_is)
    (case kf_NoName => k_is)
    (case kd_Twice => k_is)
    (case kf_Twice => k_is)
    (case kd_Used => k_is)
    (case kf_Used => k_is)
    (case kd_NoGap => k_is)
    (case kf_NoGap => k_is)
    (case kd_NoTree => k_is)
    (case kf_NoTree => k_is)
    (case kd_NoUndo => k_is)
    (case kf_NoUndo => k_is)
    (case kd_NoFit => k_is)
    (case kf_NoFit => k_is)
    (case kd_NoMaking => k_is)
    (case kf_NoMaking => k_is)
    (case kd_KindError => k_is)
    (case kf_KindError => k_is)
    (case kk_NoKind => k_is)
    (case kx_NoKind => k_exc)
    (case kk_NoText => k_is)
    (case kx_NoText => k_exc)
    (case kk_NoStep => k_is)
    (case kx_NoStep => k_exc)
    (case kk_TooLong => k_is)
    (case kx_TooLong => k_exc)
    (case kk_TooMany => k_is)
    (case kx_TooMany => k_exc)
    (case kk_NoLong => k_is)
    (case kx_NoLong => k_exc)
    (case kk_NoNumber => k_is)
    (case kx_NoNumber => k_exc)
    (case kk_NoRow => k_is)
    (case kx_NoRow => k_exc)
    (case kk_NoName => k_is)
    (case kx_NoName => k_exc)
    (case kk_Twice => k_is)
    (case kx_Twice => k_exc)
    (case kk_Used => k_is)
    (case kx_Used => k_exc)
    (case kk_NoGap => k_is)
    (case kx_NoGap => k_exc)
    (case kk_NoTree => k_is)
    (case kx_NoTree => k_exc)
    (case kk_NoUndo => k_is)
    (case kx_NoUndo => k_exc)
    (case bs_KindError => k_is)
    (case br_KindError => k_is)
    (case bf_KindError => k_is)
    (case ox_NoFit => k_is)
    (case hhz_NoFit => rfl)
    (case os_NoFit => k_is)
    (case okz_NoFit => k_is)
    (case onz_NoFit => k_is)
    (case a_NoFit___init__ => k_is)
    (case ti_NoFit___init__ => k_is)
    (case l_NoFit___init__ => k_is)
    (case c_NoFit___init__ => k_is)
    (case k_NoFit___init__ => k_is)
    (case ox_NoMaking => k_is)
    (case hhz_NoMaking => rfl)
    (case os_NoMaking => k_is)
    (case okz_NoMaking => k_is)
    (case onz_NoMaking => k_is)
    (case a_NoMaking___init__ => k_is)
    (case ti_NoMaking___init__ => k_is)
    (case l_NoMaking___init__ => k_is)
    (case c_NoMaking___init__ => k_is)
    (case k_NoMaking___init__ => k_is)
    (case ega_NoKind => k_is)
    (case egt_NoKind => k_is)
    (case edc_NoKind => k_is)
    (case ecc_NoKind => k_is)
    (case emo_NoKind => k_is)
    (case ega_NoText => k_is)
    (case egt_NoText => k_is)
    (case edc_NoText => k_is)
    (case ecc_NoText => k_is)
    (case emo_NoText => k_is)
    (case ega_NoStep => k_is)
    (case egt_NoStep => k_is)
    (case edc_NoStep => k_is)
    (case ecc_NoStep => k_is)
    (case emo_NoStep => k_is)
    (case ega_TooLong => k_is)
    (case egt_TooLong => k_is)
    (case edc_TooLong => k_is)
    (case ecc_TooLong => k_is)
    (case emo_TooLong => k_is)
    (case ega_TooMany => k_is)
    (case egt_TooMany => k_is)
    (case edc_TooMany => k_is)
    (case ecc_TooMany => k_is)
    (case emo_TooMany => k_is)
    (case ega_NoLong => k_is)
    (case egt_NoLong => k_is)
    (case edc_NoLong => k_is)
    (case ecc_NoLong => k_is)
    (case emo_NoLong => k_is)
    (case ega_NoNumber => k_is)
    (case egt_NoNumber => k_is)
    (case edc_NoNumber => k_is)
    (case ecc_NoNumber => k_is)
    (case emo_NoNumber => k_is)
    (case ega_NoRow => k_is)
    (case egt_NoRow => k_is)
    (case edc_NoRow => k_is)
    (case ecc_NoRow => k_is)
    (case emo_NoRow => k_is)
    (case ega_NoName => k_is)
    (case egt_NoName => k_is)
    (case edc_NoName => k_is)
    (case ecc_NoName => k_is)
    (case emo_NoName => k_is)
    (case ega_Twice => k_is)
    (case egt_Twice => k_is)
    (case edc_Twice => k_is)
    (case ecc_Twice => k_is)
    (case emo_Twice => k_is)
    (case ega_Used => k_is)
    (case egt_Used => k_is)
    (case edc_Used => k_is)
    (case ecc_Used => k_is)
    (case emo_Used => k_is)
    (case ega_NoGap => k_is)
    (case egt_NoGap => k_is)
    (case edc_NoGap => k_is)
    (case ecc_NoGap => k_is)
    (case emo_NoGap => k_is)
    (case ega_NoTree => k_is)
    (case egt_NoTree => k_is)
    (case edc_NoTree => k_is)
    (case ecc_NoTree => k_is)
    (case emo_NoTree => k_is)
    (case ega_NoUndo => k_is)
    (case egt_NoUndo => k_is)
    (case edc_NoUndo => k_is)
    (case ecc_NoUndo => k_is)
    (case emo_NoUndo => k_is)
    (case ega_NoFit => k_is)
    (case egt_NoFit => k_is)
    (case edc_NoFit => k_is)
    (case ecc_NoFit => k_is)
    (case emo_NoFit => k_is)
    (case ega_NoMaking => k_is)
    (case egt_NoMaking => k_is)
    (case edc_NoMaking => k_is)
    (case ecc_NoMaking => k_is)
    (case emo_NoMaking => k_is)
    (case spc => k_is)
    (case tkc => k_is)
    (case sb_NoKind_KindError => k_is)
    (case sb_NoKind_ValueError => k_is)
    (case sb_NoKind_NoText => k_is)
    (case sb_NoKind_NoStep => k_is)
    (case sb_NoKind_TooLong => k_is)
    (case sb_NoKind_TooMany => k_is)
    (case sb_NoKind_NoLong => k_is)
    (case sb_NoKind_NoNumber => k_is)
    (case sb_NoKind_NoRow => k_is)
    (case sb_NoKind_NoName => k_is)
    (case sb_NoKind_Twice => k_is)
    (case sb_NoKind_Used => k_is)
    (case sb_NoKind_NoGap => k_is)
    (case sb_NoKind_NoTree => k_is)
    (case sb_NoKind_NoUndo => k_is)
    (case sb_NoKind_NoFit => k_is)
    (case sb_NoKind_NoMaking => k_is)
    (case sb_NoText_KindError => k_is)
    (case sb_NoText_ValueError => k_is)
    (case sb_NoText_NoKind => k_is)
    (case sb_NoText_NoStep => k_is)
    (case sb_NoText_TooLong => k_is)
    (case sb_NoText_TooMany => k_is)
    (case sb_NoText_NoLong => k_is)
    (case sb_NoText_NoNumber => k_is)
    (case sb_NoText_NoRow => k_is)
    (case sb_NoText_NoName => k_is)
    (case sb_NoText_Twice => k_is)
    (case sb_NoText_Used => k_is)
    (case sb_NoText_NoGap => k_is)
    (case sb_NoText_NoTree => k_is)
    (case sb_NoText_NoUndo => k_is)
    (case sb_NoText_NoFit => k_is)
    (case sb_NoText_NoMaking => k_is)
    (case sb_NoStep_KindError => k_is)
    (case sb_NoStep_ValueError => k_is)
    (case sb_NoStep_NoKind => k_is)
    (case sb_NoStep_NoText => k_is)
    (case sb_NoStep_TooLong => k_is)
    (case sb_NoStep_TooMany => k_is)
    (case sb_NoStep_NoLong => k_is)
    (case sb_NoStep_NoNumber => k_is)
    (case sb_NoStep_NoRow => k_is)
    (case sb_NoStep_NoName => k_is)
    (case sb_NoStep_Twice => k_is)
    (case sb_NoStep_Used => k_is)
    (case sb_NoStep_NoGap => k_is)
    (case sb_NoStep_NoTree => k_is)
    (case sb_NoStep_NoUndo => k_is)
    (case sb_NoStep_NoFit => k_is)
    (case sb_NoStep_NoMaking => k_is)
    (case sb_TooLong_KindError => k_is)
    (case sb_TooLong_ValueError => k_is)
    (case sb_TooLong_NoKind => k_is)
    (case sb_TooLong_NoText => k_is)
    (case sb_TooLong_NoStep => k_is)
    (case sb_TooLong_TooMany => k_is)
    (case sb_TooLong_NoLong => k_is)
    (case sb_TooLong_NoNumber => k_is)
    (case sb_TooLong_NoRow => k_is)
    (case sb_TooLong_NoName => k_is)
    (case sb_TooLong_Twice => k_is)
    (case sb_TooLong_Used => k_is)
    (case sb_TooLong_NoGap => k_is)
    (case sb_TooLong_NoTree => k_is)
    (case sb_TooLong_NoUndo => k_is)
    (case sb_TooLong_NoFit => k_is)
    (case sb_TooLong_NoMaking => k_is)
    (case sb_TooMany_KindError => k_is)
    (case sb_TooMany_ValueError => k_is)
    (case sb_TooMany_NoKind => k_is)
    (case sb_TooMany_NoText => k_is)
    (case sb_TooMany_NoStep => k_is)
    (case sb_TooMany_TooLong => k_is)
    (case sb_TooMany_NoLong => k_is)
    (case sb_TooMany_NoNumber => k_is)
    (case sb_TooMany_NoRow => k_is)
    (case sb_TooMany_NoName => k_is)
    (case sb_TooMany_Twice => k_is)
    (case sb_TooMany_Used => k_is)
    (case sb_TooMany_NoGap => k_is)
    (case sb_TooMany_NoTree => k_is)
    (case sb_TooMany_NoUndo => k_is)
    (case sb_TooMany_NoFit => k_is)
    (case sb_TooMany_NoMaking => k_is)
    (case sb_NoLong_KindError => k_is)
    (case sb_NoLong_ValueError => k_is)
    (case sb_NoLong_NoKind => k_is)
    (case sb_NoLong_NoText => k_is)
    (case sb_NoLong_NoStep => k_is)
    (case sb_NoLong_TooLong => k_is)
    (case sb_NoLong_TooMany => k_is)
    (case sb_NoLong_NoNumber => k_is)
    (case sb_NoLong_NoRow => k_is)
    (case sb_NoLong_NoName => k_is)
    (case sb_NoLong_Twice => k_is)
    (case sb_NoLong_Used => k_is)
    (case sb_NoLong_NoGap => k_is)
    (case sb_NoLong_NoTree => k_is)
    (case sb_NoLong_NoUndo => k_is)
    (case sb_NoLong_NoFit => k_is)
    (case sb_NoLong_NoMaking => k_is)
    (case sb_NoNumber_KindError => k_is)
    (case sb_NoNumber_ValueError => k_is)
    (case sb_NoNumber_NoKind => k_is)
    (case sb_NoNumber_NoText => k_is)
    (case sb_NoNumber_NoStep => k_is)
    (case sb_NoNumber_TooLong => k_is)
    (case sb_NoNumber_TooMany => k_is)
    (case sb_NoNumber_NoLong => k_is)
    (case sb_NoNumber_NoRow => k_is)
    (case sb_NoNumber_NoName => k_is)
    (case sb_NoNumber_Twice => k_is)
    (case sb_NoNumber_Used => k_is)
    (case sb_NoNumber_NoGap => k_is)
    (case sb_NoNumber_NoTree => k_is)
    (case sb_NoNumber_NoUndo => k_is)
    (case sb_NoNumber_NoFit => k_is)
    (case sb_NoNumber_NoMaking => k_is)
    (case sb_NoRow_KindError => k_is)
    (case sb_NoRow_ValueError => k_is)
    (case sb_NoRow_NoKind => k_is)
    (case sb_NoRow_NoText => k_is)
    (case sb_NoRow_NoStep => k_is)
    (case sb_NoRow_TooLong => k_is)
    (case sb_NoRow_TooMany => k_is)
    (case sb_NoRow_NoLong => k_is)
    (case sb_NoRow_NoNumber => k_is)
    (case sb_NoRow_NoName => k_is)
    (case sb_NoRow_Twice => k_is)
    (case sb_NoRow_Used => k_is)
    (case sb_NoRow_NoGap => k_is)
    (case sb_NoRow_NoTree => k_is)
    (case sb_NoRow_NoUndo => k_is)
    (case sb_NoRow_NoFit => k_is)
    (case sb_NoRow_NoMaking => k_is)
    (case sb_NoName_KindError => k_is)
    (case sb_NoName_ValueError => k_is)
    (case sb_NoName_NoKind => k_is)
    (case sb_NoName_NoText => k_is)
    (case sb_NoName_NoStep => k_is)
    (case sb_NoName_TooLong => k_is)
    (case sb_NoName_TooMany => k_is)
    (case sb_NoName_NoLong => k_is)
    (case sb_NoName_NoNumber => k_is)
    (case sb_NoName_NoRow => k_is)
    (case sb_NoName_Twice => k_is)
    (case sb_NoName_Used => k_is)
    (case sb_NoName_NoGap => k_is)
    (case sb_NoName_NoTree => k_is)
    (case sb_NoName_NoUndo => k_is)
    (case sb_NoName_NoFit => k_is)
    (case sb_NoName_NoMaking => k_is)
    (case sb_Twice_KindError => k_is)
    (case sb_Twice_ValueError => k_is)
    (case sb_Twice_NoKind => k_is)
    (case sb_Twice_NoText => k_is)
    (case sb_Twice_NoStep => k_is)
    (case sb_Twice_TooLong => k_is)
    (case sb_Twice_TooMany => k_is)
    (case sb_Twice_NoLong => k_is)
    (case sb_Twice_NoNumber => k_is)
    (case sb_Twice_NoRow => k_is)
    (case sb_Twice_NoName => k_is)
    (case sb_Twice_Used => k_is)
    (case sb_Twice_NoGap => k_is)
    (case sb_Twice_NoTree => k_is)
    (case sb_Twice_NoUndo => k_is)
    (case sb_Twice_NoFit => k_is)
    (case sb_Twice_NoMaking => k_is)
    (case sb_Used_KindError => k_is)
    (case sb_Used_ValueError => k_is)
    (case sb_Used_NoKind => k_is)
    (case sb_Used_NoText => k_is)
    (case sb_Used_NoStep => k_is)
    (case sb_Used_TooLong => k_is)
    (case sb_Used_TooMany => k_is)
    (case sb_Used_NoLong => k_is)
    (case sb_Used_NoNumber => k_is)
    (case sb_Used_NoRow => k_is)
    (case sb_Used_NoName => k_is)
    (case sb_Used_Twice => k_is)
    (case sb_Used_NoGap => k_is)
    (case sb_Used_NoTree => k_is)
    (case sb_Used_NoUndo => k_is)
    (case sb_Used_NoFit => k_is)
    (case sb_Used_NoMaking => k_is)
    (case sb_NoGap_KindError => k_is)
    (case sb_NoGap_ValueError => k_is)
    (case sb_NoGap_NoKind => k_is)
    (case sb_NoGap_NoText => k_is)
    (case sb_NoGap_NoStep => k_is)
    (case sb_NoGap_TooLong => k_is)
    (case sb_NoGap_TooMany => k_is)
    (case sb_NoGap_NoLong => k_is)
    (case sb_NoGap_NoNumber => k_is)
    (case sb_NoGap_NoRow => k_is)
    (case sb_NoGap_NoName => k_is)
    (case sb_NoGap_Twice => k_is)
    (case sb_NoGap_Used => k_is)
    (case sb_NoGap_NoTree => k_is)
    (case sb_NoGap_NoUndo => k_is)
    (case sb_NoGap_NoFit => k_is)
    (case sb_NoGap_NoMaking => k_is)
    (case sb_NoTree_KindError => k_is)
    (case sb_NoTree_ValueError => k_is)
    (case sb_NoTree_NoKind => k_is)
    (case sb_NoTree_NoText => k_is)
    (case sb_NoTree_NoStep => k_is)
    (case sb_NoTree_TooLong => k_is)
    (case sb_NoTree_TooMany => k_is)
    (case sb_NoTree_NoLong => k_is)
    (case sb_NoTree_NoNumber => k_is)
    (case sb_NoTree_NoRow => k_is)
    (case sb_NoTree_NoName => k_is)
    (case sb_NoTree_Twice => k_is)
    (case sb_NoTree_Used => k_is)
    (case sb_NoTree_NoGap => k_is)
    (case sb_NoTree_NoUndo => k_is)
    (case sb_NoTree_NoFit => k_is)
    (case sb_NoTree_NoMaking => k_is)
    (case sb_NoUndo_KindError => k_is)
    (case sb_NoUndo_ValueError => k_is)
    (case sb_NoUndo_NoKind => k_is)
    (case sb_NoUndo_NoText => k_is)
    (case sb_NoUndo_NoStep => k_is)
    (case sb_NoUndo_TooLong => k_is)
    (case sb_NoUndo_TooMany => k_is)
    (case sb_NoUndo_NoLong => k_is)
    (case sb_NoUndo_NoNumber => k_is)
    (case sb_NoUndo_NoRow => k_is)
    (case sb_NoUndo_NoName => k_is)
    (case sb_NoUndo_Twice => k_is)
    (case sb_NoUndo_Used => k_is)
    (case sb_NoUndo_NoGap => k_is)
    (case sb_NoUndo_NoTree => k_is)
    (case sb_NoUndo_NoFit => k_is)
    (case sb_NoUndo_NoMaking => k_is)
    (case sb_NoFit_KindError => k_is)
    (case sb_NoFit_ValueError => k_is)
    (case sb_NoFit_NoKind => k_is)
    (case sb_NoFit_NoText => k_is)
    (case sb_NoFit_NoStep => k_is)
    (case sb_NoFit_TooLong => k_is)
    (case sb_NoFit_TooMany => k_is)
    (case sb_NoFit_NoLong => k_is)
    (case sb_NoFit_NoNumber => k_is)
    (case sb_NoFit_NoRow => k_is)
    (case sb_NoFit_NoName => k_is)
    (case sb_NoFit_Twice => k_is)
    (case sb_NoFit_Used => k_is)
    (case sb_NoFit_NoGap => k_is)
    (case sb_NoFit_NoTree => k_is)
    (case sb_NoFit_NoUndo => k_is)
    (case sb_NoFit_NoMaking => k_is)
    (case sb_NoMaking_KindError => k_is)
    (case sb_NoMaking_ValueError => k_is)
    (case sb_NoMaking_NoKind => k_is)
    (case sb_NoMaking_NoText => k_is)
    (case sb_NoMaking_NoStep => k_is)
    (case sb_NoMaking_TooLong => k_is)
    (case sb_NoMaking_TooMany => k_is)
    (case sb_NoMaking_NoLong => k_is)
    (case sb_NoMaking_NoNumber => k_is)
    (case sb_NoMaking_NoRow => k_is)
    (case sb_NoMaking_NoName => k_is)
    (case sb_NoMaking_Twice => k_is)
    (case sb_NoMaking_Used => k_is)
    (case sb_NoMaking_NoGap => k_is)
    (case sb_NoMaking_NoTree => k_is)
    (case sb_NoMaking_NoUndo => k_is)
    (case sb_NoMaking_NoFit => k_is)
