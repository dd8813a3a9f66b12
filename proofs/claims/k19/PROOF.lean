import PyProof.Rows.All
import Wide.All
import OpenK.AllK
import Wide.FinOn
import HandS.ForMost
import HandS.ForExc
import HandS.IsInst
import HandS.Deep
import HandS.Wide
import HandS.RevRange
import HandS.More
import HandS.TupLe
import HandS.ExcIs
import HandS.RaiseMore
import KE.KRevSl
import HandS.SortKw
import KE.KMinKey
import HandS.CallSlots
import HandS.Defaults
import HandS.Flow
import HandS.NoneIn
import KE.GoesMore
import KE.KExcIs
import HandS.Finally
import HandS.DictComp
import KE.DataMinMax
import KE.KEqDict
import HandS.ExcInit
import HandS.ExcValue
import PySem.Challenge.RW_kindfill_k19_towers_too_long
set_option Elab.async false
set_option maxRecDepth 100000
set_option linter.all false
/-! Kf: a layer of readings over plain data. -/
namespace Kf
open PySem PySem.Spec L2
open PyProof.Rows hiding St

/-- plain data; scr is the script, ref an owned cell -/
inductive D where
  | non | bl (b : Bool) | int (i : Int) | str (x : Str) | tup (ds : List D) | lst (ds : List D) | ref (a : Addr) | ty (n : String) | scr (ns : List Int) | edic | tupK (ks : List Key)
  deriving Inhabited

/-- what an owned address holds -/
inductive Cell where
  | lst (ds : List D)
  | pool
  | dic (kvs : List (Key × D))
  | dicL (kvs : List (Key × D)) (o : HO)
  | exc (cls : Value) (fs : Option (List (Str × D)))
  | ins (C : Addr) (fs : List (Str × D))
  | dicT (kvs : List (List Key × D))

abbrev Ow := Addr → Option Cell
def updO (O : Ow) (a : Addr) (c : Cell) : Ow := fun b => if b = a then some c else O b
theorem updO_same {O : Ow} {a : Addr} {c : Cell} : updO O a c a = some c := if_pos rfl
theorem updO_ne {O : Ow} {a b : Addr} {c : Cell} (h : b ≠ a) : updO O a c b = O b := if_neg h
theorem updO_updO {O : Ow} {a : Addr} {c d : Cell} : updO (updO O a c) a d = updO O a d := by
  funext b; unfold updO; split <;> rfl
theorem updO_self {O : Ow} {a : Addr} {c : Cell} (h : O a = some c) : updO O a c = O := by
  funext b; unfold updO; split
  · rename_i e; rw [e, h]
  · rfl
/-- without a cell -/
def delO (O : Ow) (a : Addr) : Ow := fun b => if b = a then none else O b
theorem delO_updO {O : Ow} {a : Addr} {c : Cell} (h : O a = none) : delO (updO O a c) a = O := by
  funext b; unfold delO updO; split
  · rename_i e; rw [e, h]
  · rfl

abbrev DEnv := List (Option D)
abbrev VD := D → Ow → Prop
abbrev FE := DEnv → Ow → VD → Prop
abbrev FT := DEnv → Ow → (Bool → Ow → Prop) → Prop
abbrev FA := DEnv → Ow → (List D → Ow → Prop) → Prop

section
variable (K : PySem.W.Frag) (F : Hp)
mutual
def Rep : D → V → Prop
  | .non, v => v = .non
  | .bl b, v => v = .bl b
  | .int i, v => v = .int i
  | .str x, v => v = .str x
  | .tup ds, v => ∃ a xs, v = .ref a ∧ SqT K F a xs ∧ RepAll ds xs
  | .lst ds, v => ∃ a xs, v = .ref a ∧ F a = some (.lst xs) ∧ RepAll ds xs
  | .ref a, v => v = .ref a
  | .ty n, v => v = .ty n
  | .scr ns, v => ∃ a, v = .ref a ∧ SqL K F a (ns.map V.int)
  | .edic, v => ∃ a, v = .ref a ∧ F a = some (.dK [])
  | .tupK ks, v => ∃ a, v = .ref a ∧ F a = some (.tup (ks.map kV))
def RepAll : List D → List V → Prop
  | [], vs => vs = []
  | d :: ds, vs => ∃ v r, vs = v :: r ∧ Rep d v ∧ RepAll ds r
end
end

theorem Same.seqT {K : PySem.W.Frag} {H H' : Hp} {a : Addr} {xs : List V} (e : Same H H') (h : SqT K H a xs) : SqT K H' a xs := by
  rcases h with (h | ⟨o, h⟩) | h
  · exact .inl (.inl (e _ _ h))
  · exact .inl (.inr ⟨o, e _ _ h⟩)
  · exact .inr h

section
variable {K : PySem.W.Frag} {F F' : Hp}
mutual
theorem Rep.mono (s : Same F F') : ∀ (d : D) (v : V), Rep K F d v → Rep K F' d v
  | .non, _, h => by simpa only [Rep] using h
  | .bl _, _, h => by simpa only [Rep] using h
  | .int _, _, h => by simpa only [Rep] using h
  | .str _, _, h => by simpa only [Rep] using h
  | .ref _, _, h => by simpa only [Rep] using h
  | .ty _, _, h => by simpa only [Rep] using h
  | .tup ds, _, h => by
    simp only [Rep] at h ⊢
    obtain ⟨a, xs, e, h1, h2⟩ := h
    exact ⟨a, xs, e, Same.seqT s h1, RepAll.mono s ds xs h2⟩
  | .lst ds, _, h => by
    simp only [Rep] at h ⊢
    obtain ⟨a, xs, e, h1, h2⟩ := h
    exact ⟨a, xs, e, s _ _ h1, RepAll.mono s ds xs h2⟩
  | .scr ns, _, h => by
    simp only [Rep] at h ⊢
    obtain ⟨a, e, h1⟩ := h
    exact ⟨a, e, s.seq h1⟩
  | .edic, _, h => by
    simp only [Rep] at h ⊢
    obtain ⟨a, e, h1⟩ := h
    exact ⟨a, e, s _ _ h1⟩
  | .tupK _, _, h => by
    simp only [Rep] at h ⊢
    obtain ⟨a, e, h1⟩ := h
    exact ⟨a, e, s _ _ h1⟩
theorem RepAll.mono (s : Same F F') : ∀ (ds : List D) (vs : List V), RepAll K F ds vs → RepAll K F' ds vs
  | [], _, h => by simpa only [RepAll] using h
  | d :: ds, _, h => by
    simp only [RepAll] at h ⊢
    obtain ⟨v, r, e, h1, h2⟩ := h
    exact ⟨v, r, e, Rep.mono s d v h1, RepAll.mono s ds r h2⟩
end
theorem RepAll.length : ∀ {ds : List D} {vs : List V}, RepAll K F ds vs → ds.length = vs.length
  | [], _, h => by simp only [RepAll] at h; rw [h]; rfl
  | d :: ds, _, h => by
    simp only [RepAll] at h
    obtain ⟨v, r, rfl, _, h2⟩ := h
    rw [List.length_cons, List.length_cons, RepAll.length h2]
theorem RepAll.get : ∀ {ds : List D} {vs : List V} {i : Nat} {d : D}, RepAll K F ds vs → ds[i]? = some d → ∃ v, vs[i]? = some v ∧ Rep K F d v
  | [], _, _, _, h, e => by simp at e
  | d :: ds, _, i, _, h, e => by
    simp only [RepAll] at h
    obtain ⟨v, r, rfl, h1, h2⟩ := h
    cases i with
    | zero => simp at e; subst e; exact ⟨v, rfl, h1⟩
    | succ i => simp at e ⊢; exact RepAll.get h2 e
theorem RepAll.append : ∀ {ds es : List D} {vs ws : List V}, RepAll K F ds vs → RepAll K F es ws → RepAll K F (ds ++ es) (vs ++ ws)
  | [], _, _, _, h, q => by simp only [RepAll] at h; subst h; exact q
  | d :: ds, es, _, ws, h, q => by
    simp only [RepAll] at h
    obtain ⟨v, r, rfl, h1, h2⟩ := h
    rw [List.cons_append, List.cons_append]
    simp only [RepAll]
    exact ⟨v, r ++ ws, rfl, h1, RepAll.append h2 q⟩
theorem RepAll.nil : RepAll K F [] [] := by simp only [RepAll]
theorem RepAll.cons {d : D} {ds : List D} {v : V} {vs : List V} (h : Rep K F d v) (q : RepAll K F ds vs) : RepAll K F (d :: ds) (v :: vs) := by
  simp only [RepAll]; exact ⟨v, vs, rfl, h, q⟩
theorem RepAll.one {d : D} {v : V} (h : Rep K F d v) : RepAll K F [d] [v] := .cons h .nil
theorem RepAll.set {x : D} {y : V} (hx : Rep K F x y) : ∀ {ds : List D} {vs : List V} (i : Nat), RepAll K F ds vs → RepAll K F (ds.set i x) (vs.set i y)
  | [], _, _, h => by simp only [RepAll] at h; subst h; exact .nil
  | d :: ds, _, i, h => by
    simp only [RepAll] at h
    obtain ⟨v, r, rfl, h1, h2⟩ := h
    cases i with
    | zero => exact .cons hx h2
    | succ i => exact .cons h1 (RepAll.set hx i h2)
theorem RepAll.drop : ∀ {ds : List D} {vs : List V} (n : Nat), RepAll K F ds vs → RepAll K F (ds.drop n) (vs.drop n)
  | _, _, 0, h => h
  | [], _, n + 1, h => by simp only [RepAll] at h; subst h; exact .nil
  | d :: ds, _, n + 1, h => by
    simp only [RepAll] at h
    obtain ⟨v, r, rfl, h1, h2⟩ := h
    exact RepAll.drop n h2
theorem RepAll.take : ∀ {ds : List D} {vs : List V} (n : Nat), RepAll K F ds vs → RepAll K F (ds.take n) (vs.take n)
  | _, _, 0, h => .nil
  | [], _, n + 1, h => by simp only [RepAll] at h; subst h; exact .nil
  | d :: ds, _, n + 1, h => by
    simp only [RepAll] at h
    obtain ⟨v, r, rfl, h1, h2⟩ := h
    exact .cons h1 (RepAll.take n h2)
theorem RepAll.reverse {ds : List D} {vs : List V} (h : RepAll K F ds vs) : RepAll K F ds.reverse vs.reverse := by
  induction ds generalizing vs with
  | nil => simp only [RepAll] at h; subst h; exact .nil
  | cons d ds ih =>
    simp only [RepAll] at h
    obtain ⟨v, r, rfl, h1, h2⟩ := h
    rw [List.reverse_cons, List.reverse_cons]
    exact .append (ih h2) (.one h1)
theorem RepAll.ints {vs : List V} : ∀ {ns : List Int}, RepAll K F (ns.map D.int) vs → vs = ns.map V.int := by
  intro ns h
  induction ns generalizing vs with
  | nil => rw [List.map_nil] at h; simpa only [RepAll, List.map_nil] using h
  | cons n ns ih =>
    rw [List.map_cons] at h
    simp only [RepAll, Rep] at h
    obtain ⟨v, r, rfl, rfl, h2⟩ := h
    rw [ih h2]; rfl
end

/-! ### the ghost state -/
/-- the entries of a dict -/
def KvOk {κ : Type} (K : PySem.W.Frag) (F : Hp) : List (κ × D) → List (κ × V) → Prop := Paired fun p q => p.1 = q.1 ∧ Rep K F p.2 q.2
theorem KvOk.mono {κ : Type} {K : PySem.W.Frag} {F F' : Hp} (s : Same F F') {kvs : List (κ × D)} {vs : List (κ × V)} (h : KvOk K F kvs vs) : KvOk K F' kvs vs := Paired.mapP h fun _ _ z => ⟨z.1, z.2.mono s⟩
/-- the fields of an instance -/
def FsOk (K : PySem.W.Frag) (F : Hp) : List (Str × D) → List (Str × V) → Prop := Paired fun p q => p.1 = q.1 ∧ Rep K F p.2 q.2
theorem FsOk.mono {K : PySem.W.Frag} {F F' : Hp} (s : Same F F') {fs : List (Str × D)} {fv : List (Str × V)} (h : FsOk K F fs fv) : FsOk K F' fs fv := Paired.mapP h fun _ _ z => ⟨z.1, z.2.mono s⟩
/-- an exception's object, held as a value -/
def IsX (a : Addr) (cls : Value) (d : Option Addr) (o : HO) : Prop := ∃ φ, o = .ext φ ∧ ∀ h, φ h → ∃ oe vs, h.get? a = some oe ∧ Zc cls d oe ∧ oe.data = .fields vs
def XdR (K : PySem.W.Frag) (F : Hp) : Option (List (Str × D)) → Option Addr → Prop
  | none, dd => dd = none
  | some fs, dd => ∃ dx fv, dd = some dx ∧ F dx = some (.xd fv) ∧ FsOk K F fs fv
theorem XdR.mono {K : PySem.W.Frag} {F F' : Hp} (s : Same F F') {fs : Option (List (Str × D))} {dd : Option Addr} (h : XdR K F fs dd) : XdR K F' fs dd := by
  cases fs with
  | none => exact h
  | some fs => obtain ⟨dx, fv, e, h1, h2⟩ := h; exact ⟨dx, fv, e, s _ _ h1, h2.mono s⟩
def CellOk (K : PySem.W.Frag) (F H : Hp) (a : Addr) : Cell → Prop
  | .lst ds => ∃ vs, H a = some (.lst vs) ∧ RepAll K F ds vs
  | .pool => ∃ x y : Int, H a = some (.lst [.int x, .int y]) ∧ 0 ≤ x ∧ 0 ≤ y ∧ y < 2147483647
  | .dic kvs => ∃ vs : List (Key × V), H a = some (.dK vs) ∧ KvOk K F kvs vs
  | .dicL kvs o => H a = some o ∧ ∃ (od : Obj) (vs : List (Key × V)), o = .frz od (.dK vs) ∧ KvOk K F kvs vs
  | .exc cls fs => ∃ o d, H a = some o ∧ IsX a cls d o ∧ XdR K F fs d
  | .ins C fs => ∃ dx vs, H a = some (.ins C dx vs) ∧ FsOk K F fs vs
  | .dicT kvs => ∃ vs : List (List Key × V), H a = some (.dT vs) ∧ KvOk K F kvs vs
/-- what is known of F and P all the while: it bears more of both -/
structure MX where
  rel : Hp → Hp → Prop
  mono : ∀ {F F' P P' : Hp}, rel F P → Same F F' → Same P P' → rel F' P'
def MT : MX := ⟨fun _ _ => True, fun _ _ _ => trivial⟩
variable {M : MX}
/-- F: what never changes; O: what is owned; P: what stands aside -/
def NT (o : HO) : Prop := ∀ xs, o ≠ .tup xs
structure Gd (M : MX) (K : PySem.W.Frag) (F : Hp) (O : Ow) (P : Hp) (H : Hp) : Prop where
  fz : Same F H
  ow : ∀ a c, O a = some c → F a = none ∧ P a = none ∧ CellOk K F H a c
  as : ∀ a o, P a = some o → F a = none ∧ H a = some o
  rl : M.rel F P
  nt : ∀ a o, P a = some o → NT o

theorem CellOk.some {K : PySem.W.Frag} {F H : Hp} {a : Addr} {c : Cell} (h : CellOk K F H a c) : ∃ o, H a = some o := by
  cases c with
  | lst ds => obtain ⟨vs, h, _⟩ := h; exact ⟨_, h⟩
  | pool => obtain ⟨x, y, h, _⟩ := h; exact ⟨_, h⟩
  | dic kvs => obtain ⟨vs, h, _⟩ := h; exact ⟨_, h⟩
  | dicL kvs o => exact ⟨_, h.1⟩
  | exc cls fs => obtain ⟨o, d, h, _⟩ := h; exact ⟨_, h⟩
  | ins C fs => obtain ⟨dx, vs, h, _⟩ := h; exact ⟨_, h⟩
  | dicT kvs => obtain ⟨vs, h, _⟩ := h; exact ⟨_, h⟩
theorem CellOk.mono {K : PySem.W.Frag} {F F' H H' : Hp} {a : Addr} {c : Cell} (h : CellOk K F H a c) (s : Same F F') (e : H' a = H a) : CellOk K F' H' a c := by
  cases c with
  | lst ds => obtain ⟨vs, h, r⟩ := h; exact ⟨vs, e.trans h, r.mono s⟩
  | pool => obtain ⟨x, y, h, r⟩ := h; exact ⟨x, y, e.trans h, r⟩
  | dic kvs => obtain ⟨vs, h, r⟩ := h; exact ⟨vs, e.trans h, r.mono s⟩
  | dicL kvs o => obtain ⟨h, od, vs, r1, r2⟩ := h; exact ⟨e.trans h, od, vs, r1, r2.mono s⟩
  | exc cls fs => obtain ⟨o, d, h, r1, r2⟩ := h; exact ⟨o, d, e.trans h, r1, r2.mono s⟩
  | ins C fs => obtain ⟨dx, vs, h, r⟩ := h; exact ⟨dx, vs, e.trans h, r.mono s⟩
  | dicT kvs => obtain ⟨vs, h, r⟩ := h; exact ⟨vs, e.trans h, r.mono s⟩

section
variable {K : PySem.W.Frag} {F P H : Hp} {O : Ow} {p : Addr} {o : HO}
theorem Gd.freeF (g : Gd M K F O P H) (h : H p = none) : F p = none := g.fz.free h
theorem Gd.freeO (g : Gd M K F O P H) (h : H p = none) : O p = none := by
  cases e : O p with
  | none => rfl
  | some c =>
    obtain ⟨u, q⟩ := (g.ow p c e).2.2.some
    rw [h] at q; cases q
theorem Gd.freeP (g : Gd M K F O P H) (h : H p = none) : P p = none := by
  cases e : P p with
  | none => rfl
  | some c =>
    have q := (g.as p c e).2
    rw [h] at q; cases q
theorem same_upd {H : Hp} {p : Addr} {o : HO} (h : H p = none) : Same H (upd H p o) := fun b x e => by
  rw [upd_ne (ne_of_none e h)]; exact e
theorem Same.upd2 {F H : Hp} {p : Addr} {o : HO} (s : Same F H) : Same (upd F p o) (upd H p o) := fun b x e => by
  unfold upd at e ⊢
  split
  · rename_i q; rw [if_pos q] at e; exact e
  · rename_i q; rw [if_neg q] at e; exact s b x e
/-- a new thing that never changes -/
theorem Gd.new (g : Gd M K F O P H) (h : H p = none) : Gd M K (upd F p o) O P (upd H p o) := by
  have hF := g.freeF h
  have hO := g.freeO h
  have hP := g.freeP h
  refine ⟨Same.upd2 g.fz, fun a c e => ?_, fun a u e => ?_, M.mono g.rl (same_upd hF) (Same.refl _), g.nt⟩
  · have ne : a ≠ p := fun q => by rw [q, hO] at e; cases e
    obtain ⟨h1, h2, h3⟩ := g.ow a c e
    exact ⟨(upd_ne ne).trans h1, h2, h3.mono (same_upd hF) (upd_ne ne)⟩
  · have ne : a ≠ p := fun q => by rw [q, hP] at e; cases e
    obtain ⟨h1, h2⟩ := g.as a u e
    exact ⟨(upd_ne ne).trans h1, (upd_ne ne).trans h2⟩
/-- a thing of the heap that nothing speaks of -/
theorem Gd.skip (g : Gd M K F O P H) (h : H p = none) : Gd M K F O P (upd H p o) := by
  have hO := g.freeO h
  have hP := g.freeP h
  refine ⟨fun b x e => (same_upd h) b x (g.fz b x e), fun a c e => ?_, fun a u e => ?_, g.rl, g.nt⟩
  · have ne : a ≠ p := fun q => by rw [q, hO] at e; cases e
    obtain ⟨h1, h2, h3⟩ := g.ow a c e
    exact ⟨h1, h2, h3.mono (Same.refl _) (upd_ne ne)⟩
  · have ne : a ≠ p := fun q => by rw [q, hP] at e; cases e
    obtain ⟨h1, h2⟩ := g.as a u e
    exact ⟨h1, (upd_ne ne).trans h2⟩
/-- a new owned cell -/
theorem Gd.newO (g : Gd M K F O P H) (h : H p = none) {c : Cell} (hc : CellOk K F (upd H p o) p c) : Gd M K F (updO O p c) P (upd H p o) := by
  have hF := g.freeF h
  have g' := g.skip (o := o) h
  refine ⟨g'.fz, fun a d e => ?_, g'.as, g'.rl, g'.nt⟩
  by_cases q : a = p
  · subst q
    rw [updO_same] at e; cases e
    exact ⟨hF, g.freeP h, hc⟩
  · rw [updO_ne q] at e
    exact g'.ow a d e
/-- an owned cell changes -/
theorem Gd.setO (g : Gd M K F O P H) {c0 : Cell} (h : O p = some c0) {c : Cell} (hc : CellOk K F (upd H p o) p c) : Gd M K F (updO O p c) P (upd H p o) := by
  obtain ⟨hF, hP, _⟩ := g.ow p c0 h
  refine ⟨fun b x e => ?_, fun a d e => ?_, fun a u e => ?_, g.rl, g.nt⟩
  · have ne : b ≠ p := fun q => by rw [q, hF] at e; cases e
    rw [upd_ne ne]; exact g.fz b x e
  · by_cases q : a = p
    · subst q
      rw [updO_same] at e; cases e
      exact ⟨hF, hP, hc⟩
    · rw [updO_ne q] at e
      obtain ⟨h1, h2, h3⟩ := g.ow a d e
      exact ⟨h1, h2, h3.mono (Same.refl _) (upd_ne q)⟩
  · have ne : a ≠ p := fun q => by rw [q, hP] at e; cases e
    obtain ⟨h1, h2⟩ := g.as a u e
    exact ⟨h1, (upd_ne ne).trans h2⟩
/-- an owned list is owned no more: it never changes from now on -/
theorem Gd.freeze (g : Gd M K F O P H) {ds : List D} (h : O p = some (.lst ds)) : ∃ F', Same F F' ∧ Gd M K F' (delO O p) P H ∧ Rep K F' (.lst ds) (.ref p) := by
  obtain ⟨hF, hP, vs, hH, hr⟩ := g.ow p _ h
  have s : Same F (upd F p (.lst vs)) := same_upd hF
  refine ⟨upd F p (.lst vs), s, ⟨fun b x e => ?_, fun a c e => ?_, fun a u e => ?_, M.mono g.rl s (Same.refl _), g.nt⟩, ?_⟩
  · by_cases q : b = p
    · subst q; rw [upd_same] at e; cases e; exact hH
    · rw [upd_ne q] at e; exact g.fz b x e
  · unfold delO at e
    by_cases q : a = p
    · rw [if_pos q] at e; cases e
    · rw [if_neg q] at e
      obtain ⟨h1, h2, h3⟩ := g.ow a c e
      exact ⟨(upd_ne q).trans h1, h2, h3.mono s rfl⟩
  · have q : a ≠ p := fun z => by rw [z, hP] at e; cases e
    obtain ⟨h1, h2⟩ := g.as a u e
    exact ⟨(upd_ne q).trans h1, h2⟩
  · simp only [Rep]
    exact ⟨p, vs, rfl, upd_same, hr.mono s⟩
/-- an owned cell is forgotten -/
theorem Gd.drop (g : Gd M K F O P H) : Gd M K F (delO O p) P H := by
  refine ⟨g.fz, fun a c e => ?_, g.as, g.rl, g.nt⟩
  unfold delO at e
  by_cases q : a = p
  · rw [if_pos q] at e; cases e
  · rw [if_neg q] at e; exact g.ow a c e
end

/-! ### environments -/
def EnvOk (K : PySem.W.Frag) (F : Hp) (ρ : DEnv) (σ : St) : Prop := ρ.length = σ.length ∧ ∀ (i : Nat) (d : D), ρ[i]? = some (some d) → ∃ v, σ[i]? = some (some v) ∧ Rep K F d v
section
variable {K : PySem.W.Frag} {F F' : Hp} {ρ : DEnv} {σ : St}
theorem EnvOk.mono (h : EnvOk K F ρ σ) (s : Same F F') : EnvOk K F' ρ σ := ⟨h.1, fun i d e => let ⟨v, q, r⟩ := h.2 i d e; ⟨v, q, r.mono s⟩⟩
theorem EnvOk.set (h : EnvOk K F ρ σ) {d : D} {v : V} (r : Rep K F d v) (i : Nat) : EnvOk K F (ρ.set i (some d)) (σ.set i (some v)) := by
  refine ⟨by rw [List.length_set, List.length_set, h.1], fun j e q => ?_⟩
  by_cases c : i = j
  · subst c
    by_cases hl : i < ρ.length
    · rw [List.getElem?_set_self hl] at q
      cases q
      exact ⟨v, by rw [List.getElem?_set_self (h.1 ▸ hl)], r⟩
    · rw [List.getElem?_eq_none (by rw [List.length_set]; omega)] at q; cases q
  · rw [List.getElem?_set_ne c] at q ⊢
    exact h.2 j e q
theorem EnvOk.wipe (h : EnvOk K F ρ σ) (i : Nat) : EnvOk K F (ρ.set i none) (σ.set i none) := by
  refine ⟨by rw [List.length_set, List.length_set, h.1], fun j e q => ?_⟩
  by_cases c : i = j
  · subst c
    by_cases hl : i < ρ.length
    · rw [List.getElem?_set_self hl] at q; cases q
    · rw [List.getElem?_eq_none (by rw [List.length_set]; omega)] at q; cases q
  · rw [List.getElem?_set_ne c] at q ⊢
    exact h.2 j e q
theorem envOk_start : ∀ {ds : List D} {vs : List V} (n : Nat), RepAll K F ds vs → EnvOk K F (ds.map some ++ List.replicate n none) (vs.map some ++ List.replicate n none) := by
  intro ds vs n h
  have hl := h.length
  refine ⟨by simp [hl], fun i d e => ?_⟩
  by_cases c : i < ds.length
  · rw [List.getElem?_append_left (by simpa using c), List.getElem?_map] at e
    obtain ⟨d', e1, e2⟩ := Option.map_eq_some_iff.mp e
    cases e2
    obtain ⟨v, h1, h2⟩ := h.get e1
    refine ⟨v, ?_, h2⟩
    rw [List.getElem?_append_left (by simpa [← hl] using c), List.getElem?_map, h1]; rfl
  · rw [List.getElem?_append_right (by simpa using c)] at e
    rw [List.getElem?_replicate] at e
    split at e <;> cases e
end

/-! ### readings over data, lifted -/
def PostE (M : MX) (K : PySem.W.Frag) (F P : Hp) (R : VD) (Q : VK) : Prop := ∀ d O' F' H' v, R d O' → Same F F' → Gd M K F' O' P H' → Rep K F' d v → Q v H'
def PostT (M : MX) (K : PySem.W.Frag) (F P : Hp) (R : Bool → Ow → Prop) (Q : Bool → Hp → Prop) : Prop := ∀ b O' F' H', R b O' → Same F F' → Gd M K F' O' P H' → Q b H'
def PostA (M : MX) (K : PySem.W.Frag) (F P : Hp) (R : List D → Ow → Prop) (Q : List V → Hp → Prop) : Prop := ∀ ds O' F' H' vs, R ds O' → Same F F' → Gd M K F' O' P H' → RepAll K F' ds vs → Q vs H'
def liftE (M : MX) (K : PySem.W.Frag) (f : FE) : TE := fun σ H Q => ∃ F O P ρ R, Gd M K F O P H ∧ EnvOk K F ρ σ ∧ f ρ O R ∧ PostE M K F P R Q
def liftT (M : MX) (K : PySem.W.Frag) (f : FT) : TT := fun σ H Q => ∃ F O P ρ R, Gd M K F O P H ∧ EnvOk K F ρ σ ∧ f ρ O R ∧ PostT M K F P R Q
def liftA (M : MX) (K : PySem.W.Frag) (f : FA) : TA := fun σ H Q => ∃ F O P ρ R, Gd M K F O P H ∧ EnvOk K F ρ σ ∧ f ρ O R ∧ PostA M K F P R Q
abbrev DE (M : MX) (X : Cx) (e : Expr) (f : FE) : Prop := PE X e (liftE M X.K f)
abbrev DT (M : MX) (X : Cx) (e : Expr) (f : FT) : Prop := PT X e (liftT M X.K f)
abbrev DA (M : MX) (X : Cx) (es : List Expr) (f : FA) : Prop := PA X es (liftA M X.K f)

theorem peMono {X : Cx} {e : Expr} {t t' : TE} (h : PE X e t) (imp : ∀ σ H Q, t' σ H Q → t σ H Q) : PE X e t' := ⟨fun pins s σ H Q I q => h.run pins s σ H Q I (imp σ H Q q)⟩
theorem ptMono {X : Cx} {e : Expr} {t t' : TT} (h : PT X e t) (imp : ∀ σ H Q, t' σ H Q → t σ H Q) : PT X e t' := ⟨fun pins s σ H Q I q => h.run pins s σ H Q I (imp σ H Q q)⟩
theorem pwMono {X : Cx} {e : Expr} {t t' : TT} (h : PW X e t) (imp : ∀ σ H Q, t' σ H Q → t σ H Q) : PW X e t' := ⟨fun whole pins s σ H Q I q => h.run whole pins s σ H Q I (imp σ H Q q)⟩
theorem paMono {X : Cx} {es : List Expr} {t t' : TA} (h : PA X es t) (imp : ∀ σ H Q, t' σ H Q → t σ H Q) : PA X es t' := ⟨fun pos pins s σ H Q I q => h.run pos pins s σ H Q I (imp σ H Q q)⟩
theorem psMono {X : Cx} {st : Stmt} {t t' : TS} (h : PS X st t) (imp : ∀ D σ H, t' D σ H → t D σ H) : PS X st t' := ⟨fun pins s σ H D I q => h.run pins s σ H D I (imp D σ H q)⟩
theorem pssMono {X : Cx} {st : List Stmt} {t t' : TS} (h : PSs X st t) (imp : ∀ D σ H, t' D σ H → t D σ H) : PSs X st t' := ⟨fun pins s σ H D I q => h.run pins s σ H D I (imp D σ H q)⟩

section
variable {X : Cx} {a b c e : Expr} {es : List Expr} {fa fb fc : FE} {pos : Pos}

/-! ### names and constants -/
def envGet (o : Option (Option D)) (O : Ow) (Q : VD) : Prop := match o with
  | some (some d) => Q d O
  | _ => False
theorem envGet_s {d : D} {O : Ow} {Q : VD} : envGet (some (some d)) O Q = Q d O := rfl
def fVar (i : Nat) : FE := fun ρ O Q => envGet ρ[i]? O Q
def fC (d : D) : FE := fun _ O Q => Q d O
theorem de_var (i : Nat) {x : Str} (hN : X.N[i]? = some x := by rfl) (hv : Vis X.env.scope x := by first | exact Or.inl rfl | exact Or.inr (Or.inl rfl) | exact Or.inr (Or.inr rfl)) (hd : (x == ("__debug__" : Str)) = false := by decide)
    (hcd : (x == ("__classdict__" : Str)) = false := by decide) : DE M X (.Name x pos) (fVar i) := by
  refine peMono (pe_var hN hv hd hcd) fun σ H Q h => ?_
  obtain ⟨F, O, P, ρ, R, g, en, q, po⟩ := h
  unfold fVar envGet at q
  split at q
  · rename_i d e
    obtain ⟨v, e', r⟩ := en.2 i d e
    exact ⟨v, e', po d O F H v q (Same.refl _) g r⟩
  · exact q.elim
/-- a constant: what is the same everywhere -/
theorem de_const {t : TE} {d : D} {v : V} (h : PE X e t) (ht : ∀ σ H Q, Q v H → t σ H Q) (hr : ∀ F, Rep X.K F d v) : DE M X e (fC d) := by
  refine peMono h fun σ H Q h => ?_
  obtain ⟨F, O, P, ρ, R, g, en, q, po⟩ := h
  exact ht σ H Q (po d O F H v q (Same.refl _) g (hr F))
theorem de_int {i : Int} {j : Nat} : DE M X (.Constant (.int i) j pos) (fC (.int i)) := de_const pe_int (fun _ _ _ q => q) fun _ => by simp only [Rep]
theorem de_bl {i : Bool} {j : Nat} : DE M X (.Constant (.bool i) j pos) (fC (.bl i)) := de_const pe_bl (fun _ _ _ q => q) fun _ => by simp only [Rep]
theorem de_non {j : Nat} : DE M X (.Constant .none j pos) (fC .non) := de_const pe_non (fun _ _ _ q => q) fun _ => by simp only [Rep]
theorem de_str {x : Str} {j : Nat} : DE M X (.Constant (.str x) j pos) (fC (.str x)) := de_const pe_str (fun _ _ _ q => q) fun _ => by simp only [Rep]
theorem de_glob {x : Str} {d : D} {v : V} {u : Value} (hg : Gl X x) (hm : X.mg x = some u) (r : RelV v u) (hr : ∀ F, Rep X.K F d v) (hd : (x == ("__debug__" : Str)) = false := by decide) : DE M X (.Name x pos) (fC d) :=
  de_const (pe_glob hg hm r hd) (fun _ _ _ q => q) hr
theorem de_bltn {x : Str} {d : D} {v : V} {u : Value} (hg : Gl X x) (hm : X.mg x = none) (hv : bootBuiltins x = some u) (r : RelV v u) (hr : ∀ F, Rep X.K F d v) (hn : x ≠ "__name__" := by decide) (hd : (x == ("__debug__" : Str)) = false := by decide) : DE M X (.Name x pos) (fC d) :=
  de_const (pe_bltn hg hm hv r hn hd) (fun _ _ _ q => q) hr

/-! ### operators -/
abbrev R2D := D → D → Ow → VD → Prop
abbrev R1D := D → Ow → VD → Prop
def liftR2 (M : MX) (K : PySem.W.Frag) (r : R2D) : R2 := fun x y H Q => ∃ F O P dx dy R, Gd M K F O P H ∧ Rep K F dx x ∧ Rep K F dy y ∧ r dx dy O R ∧ PostE M K F P R Q
def liftRA (M : MX) (K : PySem.W.Frag) (r : List D → Ow → VD → Prop) : List V → Hp → VK → Prop := fun xs H Q => ∃ F O P ds R, Gd M K F O P H ∧ RepAll K F ds xs ∧ r ds O R ∧ PostE M K F P R Q
def fOp (r : R2D) (fa fb : FE) : FE := fun ρ O Q => fa ρ O fun x O1 => fb ρ O1 fun y O2 => r x y O2 Q
theorem fOp_lift {r : R2D} : ∀ σ H Q, liftE M X.K (fOp r fa fb) σ H Q → tOp (liftR2 M X.K r) (liftE M X.K fa) (liftE M X.K fb) σ H Q := by
  intro σ H Q h
  obtain ⟨F, O, P, ρ, R, g, en, q, po⟩ := h
  refine ⟨F, O, P, ρ, _, g, en, q, fun x O1 F1 H1 v q1 s1 g1 r1 => ?_⟩
  refine ⟨F1, O1, P, ρ, _, g1, en.mono s1, q1, fun y O2 F2 H2 w q2 s2 g2 r2 => ?_⟩
  exact ⟨F2, O2, P, x, y, R, g2, r1.mono s2, r2, q2, fun d O' F' H' z q3 s3 g3 r3 => po d O' F' H' z q3 (s1.trans (s2.trans s3)) g3 r3⟩
abbrev OpD (M : MX) (X : Cx) (f : Value → Value → Sem Value) (r : R2D) : Prop := OpR X f (liftR2 M X.K r)
theorem de_op {op : Operator} {r : R2D} (ho : OpD M X (binaryOp op) r) (ha : DE M X a fa) (hb : DE M X b fb) : DE M X (.BinOp a op b pos) (fOp r fa fb) := peMono (pe_op ho ha hb) fOp_lift
theorem de_cmp {op : CmpOp} {r : R2D} (ho : OpD M X (compareOp op) r) (ha : DE M X a fa) (hb : DE M X b fb) (hm : behindInMarks op b = false) : DE M X (.Compare a [op] [b] pos) (fOp r fa fb) := peMono (pe_cmpR ho ha hb hm) fOp_lift
/-- a value as a test: it must be a bool -/
def fTest (f : FE) : FT := fun ρ O Q => f ρ O fun d O1 => ∃ k, d = .bl k ∧ Q k O1
theorem tTest_lift {f : FE} {t : TE} (hl : ∀ σ H Q, liftE M X.K f σ H Q → t σ H Q) : ∀ σ H Q, liftT M X.K (fTest f) σ H Q → tTest t σ H Q := by
  intro σ H Q h
  obtain ⟨F, O, P, ρ, R, g, en, q, po⟩ := h
  refine hl σ H _ ⟨F, O, P, ρ, _, g, en, q, fun d O' F' H' v q1 s1 g1 r1 => ?_⟩
  obtain ⟨k, rfl, q2⟩ := q1
  simp only [Rep] at r1
  exact ⟨k, r1, po k O' F' H' q2 s1 g1⟩
theorem dt_cmp {op : CmpOp} {r : R2D} (ho : OpD M X (compareOp op) r) (ha : DE M X a fa) (hb : DE M X b fb) (hm : behindInMarks op b = false) : DT M X (.Compare a [op] [b] pos) (fTest (fOp r fa fb)) :=
  ptMono (pt_cmpR ho ha hb hm) (tTest_lift fOp_lift)
theorem dt_val (h : DE M X e fa) (he : ∀ whole, isTrue e X.env whole = (do let v ← whole; standAt e.pos; holding [v] (truthy v)) := by intro _; rfl) : DT M X e (fTest fa) :=
  ptMono (pt_val h he) (tTest_lift fun _ _ _ q => q)
/-- a op1 b op2 c -/
def fChain (r r' : R2D) (fa fb fc : FE) : FE := fun ρ O Q => fa ρ O fun x O1 => fb ρ O1 fun y O2 => r x y O2 fun z O3 => ∃ k, z = .bl k ∧ (if k = true then fc ρ O3 fun w O4 => r' y w O4 Q else Q (.bl false) O3)
theorem fChain_lift {r r' : R2D} : ∀ σ H Q, liftE M X.K (fChain r r' fa fb fc) σ H Q → tChain (liftR2 M X.K r) (liftR2 M X.K r') (liftE M X.K fa) (liftE M X.K fb) (liftE M X.K fc) σ H Q := by
  intro σ H Q h
  obtain ⟨F, O, P, ρ, R, g, en, q, po⟩ := h
  refine ⟨F, O, P, ρ, _, g, en, q, fun x O1 F1 H1 v q1 s1 g1 r1 => ?_⟩
  refine ⟨F1, O1, P, ρ, _, g1, en.mono s1, q1, fun y O2 F2 H2 w q2 s2 g2 r2 => ?_⟩
  refine ⟨F2, O2, P, x, y, _, g2, r1.mono s2, r2, q2, fun d O3 F3 H3 z q3 s3 g3 r3 => ?_⟩
  obtain ⟨k, rfl, q4⟩ := q3
  simp only [Rep] at r3
  refine ⟨k, r3, ?_⟩
  cases k with
  | true =>
    rw [if_pos rfl] at q4 ⊢
    refine ⟨F3, O3, P, ρ, _, g3, en.mono (s1.trans (s2.trans s3)), q4, fun w2 O4 F4 H4 z q5 s4 g4 r4 => ?_⟩
    exact ⟨F4, O4, P, y, w2, R, g4, r2.mono (s3.trans s4), r4, q5, fun d O' F' H' z q6 s5 g5 r5 => po d O' F' H' z q6 (s1.trans (s2.trans (s3.trans (s4.trans s5)))) g5 r5⟩
  | false =>
    rw [if_neg Bool.false_ne_true] at q4 ⊢
    exact po _ O3 F3 H3 _ q4 (s1.trans (s2.trans s3)) g3 (by simp only [Rep])
theorem dt_chain {op op' : CmpOp} {r r' : R2D} (ho : OpD M X (compareOp op) r) (ho' : OpD M X (compareOp op') r') (ha : DE M X a fa) (hb : DE M X b fb) (hc : DE M X c fc)
    (hm : lastMarks [op, op'] [b, c] = false := by with_unfolding_all rfl) : DT M X (.Compare a [op, op'] [b, c] pos) (fTest (fChain r r' fa fb fc)) := ptMono (pt_chain ho ho' ha hb hc hm) (tTest_lift fChain_lift)
/-! ### and, or, not -/
variable {tA tB' : FT} {rest : List Expr}
def fAnd (t u : FT) : FT := fun ρ O Q => t ρ O fun c O1 => if c = true then u ρ O1 Q else Q false O1
def fOr (t u : FT) : FT := fun ρ O Q => t ρ O fun c O1 => if c = true then Q true O1 else u ρ O1 Q
def fNot (t : FT) : FT := fun ρ O Q => t ρ O fun c O1 => Q (!c) O1
abbrev DW (M : MX) (X : Cx) (e : Expr) (f : FT) : Prop := PW X e (liftT M X.K f)
theorem fAnd_lift : ∀ σ H Q, liftT M X.K (fAnd tA tB') σ H Q → tAnd (liftT M X.K tA) (liftT M X.K tB') σ H Q := by
  intro σ H Q h
  obtain ⟨F, O, P, ρ, R, g, en, q, po⟩ := h
  refine ⟨F, O, P, ρ, _, g, en, q, fun k O1 F1 H1 q1 s1 g1 => ?_⟩
  cases k with
  | true =>
    rw [if_pos rfl] at q1 ⊢
    exact ⟨F1, O1, P, ρ, R, g1, en.mono s1, q1, fun b O' F' H' q2 s2 g2 => po b O' F' H' q2 (s1.trans s2) g2⟩
  | false =>
    rw [if_neg Bool.false_ne_true] at q1 ⊢
    exact po _ O1 F1 H1 q1 s1 g1
theorem fOr_lift : ∀ σ H Q, liftT M X.K (fOr tA tB') σ H Q → tOr (liftT M X.K tA) (liftT M X.K tB') σ H Q := by
  intro σ H Q h
  obtain ⟨F, O, P, ρ, R, g, en, q, po⟩ := h
  refine ⟨F, O, P, ρ, _, g, en, q, fun k O1 F1 H1 q1 s1 g1 => ?_⟩
  cases k with
  | false =>
    rw [if_neg Bool.false_ne_true] at q1 ⊢
    exact ⟨F1, O1, P, ρ, R, g1, en.mono s1, q1, fun b O' F' H' q2 s2 g2 => po b O' F' H' q2 (s1.trans s2) g2⟩
  | true =>
    rw [if_pos rfl] at q1 ⊢
    exact po _ O1 F1 H1 q1 s1 g1
theorem dw_and1 (ha : DT M X a tA) : DW M X (.BoolOp .And [a] pos) tA := pw_and1 ha
theorem dw_or1 (ha : DT M X a tA) : DW M X (.BoolOp .Or [a] pos) tA := pw_or1 ha
theorem dw_and (ha : DT M X a tA) (hb : DW M X (.BoolOp .And (b :: rest) pos) tB') : DW M X (.BoolOp .And (a :: b :: rest) pos) (fAnd tA tB') := pwMono (pw_and ha hb) fAnd_lift
theorem dw_or (ha : DT M X a tA) (hb : DW M X (.BoolOp .Or (b :: rest) pos) tB') : DW M X (.BoolOp .Or (a :: b :: rest) pos) (fOr tA tB') := pwMono (pw_or ha hb) fOr_lift
theorem dt_of (h : DW M X e tA) : DT M X e tA := h.pt
theorem dt_not (ha : DT M X a tA) : DT M X (.UnaryOp .Not a pos) (fNot tA) := by
  refine ptMono (pt_not ha) fun σ H Q h => ?_
  obtain ⟨F, O, P, ρ, R, g, en, q, po⟩ := h
  exact ⟨F, O, P, ρ, _, g, en, q, fun k O1 F1 H1 q1 s1 g1 => po _ O1 F1 H1 q1 s1 g1⟩
/-- .. as values (bools) -/
def fAndV (fa fb : FE) : FE := fun ρ O Q => fa ρ O fun x O1 => ∃ c, x = .bl c ∧ if c = true then fb ρ O1 Q else Q (.bl false) O1
def fOrV (fa fb : FE) : FE := fun ρ O Q => fa ρ O fun x O1 => ∃ c, x = .bl c ∧ if c = true then Q (.bl true) O1 else fb ρ O1 Q
def fNotV (fa : FE) : FE := fun ρ O Q => fa ρ O fun x O1 => ∃ c, x = .bl c ∧ Q (.bl (!c)) O1
theorem de_one {op} (h : DE M X a fa) : DE M X (.BoolOp op [a] pos) fa := pe_one h
theorem de_and (ha : DE M X a fa) (hb : DE M X (.BoolOp .And (b :: rest) pos) fb) : DE M X (.BoolOp .And (a :: b :: rest) pos) (fAndV fa fb) := by
  refine peMono (pe_and ha hb) fun σ H Q h => ?_
  obtain ⟨F, O, P, ρ, R, g, en, q, po⟩ := h
  refine ⟨F, O, P, ρ, _, g, en, q, fun k O1 F1 H1 v q1 s1 g1 r1 => ?_⟩
  obtain ⟨c, rfl, q1⟩ := q1
  simp only [Rep] at r1
  refine ⟨c, r1, ?_⟩
  cases c with
  | true =>
    rw [if_pos rfl] at q1 ⊢
    exact ⟨F1, O1, P, ρ, R, g1, en.mono s1, q1, fun b O' F' H' v q2 s2 g2 => po b O' F' H' v q2 (s1.trans s2) g2⟩
  | false =>
    rw [if_neg Bool.false_ne_true] at q1 ⊢
    exact po _ O1 F1 H1 _ q1 s1 g1 (by simp only [Rep])
theorem de_or (ha : DE M X a fa) (hb : DE M X (.BoolOp .Or (b :: rest) pos) fb) : DE M X (.BoolOp .Or (a :: b :: rest) pos) (fOrV fa fb) := by
  refine peMono (pe_or ha hb) fun σ H Q h => ?_
  obtain ⟨F, O, P, ρ, R, g, en, q, po⟩ := h
  refine ⟨F, O, P, ρ, _, g, en, q, fun k O1 F1 H1 v q1 s1 g1 r1 => ?_⟩
  obtain ⟨c, rfl, q1⟩ := q1
  simp only [Rep] at r1
  refine ⟨c, r1, ?_⟩
  cases c with
  | false =>
    rw [if_neg Bool.false_ne_true] at q1 ⊢
    exact ⟨F1, O1, P, ρ, R, g1, en.mono s1, q1, fun b O' F' H' v q2 s2 g2 => po b O' F' H' v q2 (s1.trans s2) g2⟩
  | true =>
    rw [if_pos rfl] at q1 ⊢
    exact po _ O1 F1 H1 _ q1 s1 g1 (by simp only [Rep])
theorem de_not (ha : DE M X a fa) : DE M X (.UnaryOp .Not a pos) (fNotV fa) := by
  refine peMono (pe_not ha) fun σ H Q h => ?_
  obtain ⟨F, O, P, ρ, R, g, en, q, po⟩ := h
  refine ⟨F, O, P, ρ, _, g, en, q, fun k O1 F1 H1 v q1 s1 g1 r1 => ?_⟩
  obtain ⟨c, rfl, q1⟩ := q1
  simp only [Rep] at r1
  exact ⟨c, r1, po _ O1 F1 H1 _ q1 s1 g1 (by simp only [Rep])⟩
/-- a if t else b -/
def fIf (t : FT) (fa fb : FE) : FE := fun ρ O Q => t ρ O fun c O1 => if c = true then fa ρ O1 Q else fb ρ O1 Q
/-! ### argument lists, displays -/
def fNil : FA := fun _ O Q => Q [] O
def fCons (fa : FE) (fr : FA) : FA := fun ρ O Q => fa ρ O fun x O1 => fr ρ O1 fun xs O2 => Q (x :: xs) O2
variable {fr : FA}
theorem da_nil : DA M X [] fNil := paMono pa_nil fun σ H Q h => by
  obtain ⟨F, O, P, ρ, R, g, en, q, po⟩ := h
  exact po [] O F H [] q (Same.refl _) g .nil
theorem da_cons (ha : DE M X e fa) (hr : DA M X es fr) (hs : starEach (e :: es) X.env = (false, eval e X.env) :: starEach es X.env := by rfl) : DA M X (e :: es) (fCons fa fr) := by
  refine paMono (pa_cons ha hr hs) fun σ H Q h => ?_
  obtain ⟨F, O, P, ρ, R, g, en, q, po⟩ := h
  refine ⟨F, O, P, ρ, _, g, en, q, fun x O1 F1 H1 v q1 s1 g1 r1 => ?_⟩
  exact ⟨F1, O1, P, ρ, _, g1, en.mono s1, q1, fun xs O2 F2 H2 vs q2 s2 g2 r2 => po _ O2 F2 H2 _ q2 (s1.trans s2) g2 (.cons (r1.mono s2) r2)⟩
def fTup (fr : FA) : FE := fun ρ O Q => fr ρ O fun xs O1 => xs.length ≤ sizeLine ∧ Q (.tup xs) O1
theorem de_tup {x1} (h : DA M X es fr) : DE M X (.Tuple es x1 pos) (fTup fr) := by
  refine peMono (pe_tup h) fun σ H Q h => ?_
  obtain ⟨F, O, P, ρ, R, g, en, q, po⟩ := h
  refine ⟨F, O, P, ρ, _, g, en, q, fun xs O1 F1 H1 vs q1 s1 g1 r1 => ?_⟩
  refine ⟨by rw [← r1.length]; exact q1.1, fun p hp => ?_⟩
  have hF := g1.freeF hp
  refine po (.tup xs) O1 (upd F1 p (.tup vs)) _ _ q1.2 (s1.trans (same_upd hF)) (g1.new hp) ?_
  simp only [Rep]
  exact ⟨p, vs, rfl, .inl (.inl upd_same), r1.mono (same_upd hF)⟩
/-- a list that never changes -/
def fLst (fr : FA) : FE := fun ρ O Q => fr ρ O fun xs O1 => xs.length ≤ sizeLine ∧ Q (.lst xs) O1
theorem de_lst (h : DA M X es fr) : DE M X (.List es pos) (fLst fr) := by
  refine peMono (pe_lst h) fun σ H Q h => ?_
  obtain ⟨F, O, P, ρ, R, g, en, q, po⟩ := h
  refine ⟨F, O, P, ρ, _, g, en, q, fun xs O1 F1 H1 vs q1 s1 g1 r1 => ?_⟩
  refine ⟨by rw [← r1.length]; exact q1.1, fun p hp => ?_⟩
  have hF := g1.freeF hp
  refine po (.lst xs) O1 (upd F1 p (.lst vs)) _ _ q1.2 (s1.trans (same_upd hF)) (g1.new hp) ?_
  simp only [Rep]
  exact ⟨p, vs, rfl, upd_same, r1.mono (same_upd hF)⟩
/-- a list that is owned -/
def fLstO (fr : FA) : FE := fun ρ O Q => fr ρ O fun xs O1 => xs.length ≤ sizeLine ∧ ∀ p, O1 p = none → Q (.ref p) (updO O1 p (.lst xs))
theorem de_lstO (h : DA M X es fr) : DE M X (.List es pos) (fLstO fr) := by
  refine peMono (pe_lst h) fun σ H Q h => ?_
  obtain ⟨F, O, P, ρ, R, g, en, q, po⟩ := h
  refine ⟨F, O, P, ρ, _, g, en, q, fun xs O1 F1 H1 vs q1 s1 g1 r1 => ?_⟩
  refine ⟨by rw [← r1.length]; exact q1.1, fun p hp => ?_⟩
  exact po (.ref p) _ F1 _ _ (q1.2 p (g1.freeO hp)) s1 (g1.newO hp ⟨vs, upd_same, r1⟩) (by simp only [Rep])
/-- the law's pool: two numbers that are not negative -/
def rPool (xs : List D) (O : Ow) (Q : VD) : Prop := match xs with
  | [.int x, .int y] => 0 ≤ x ∧ 0 ≤ y ∧ y < 2147483647 ∧ ∀ p, O p = none → Q (.ref p) (updO O p .pool)
  | _ => False
def fPool (fr : FA) : FE := fun ρ O Q => fr ρ O fun xs O1 => rPool xs O1 Q
theorem de_pool (h : DA M X es fr) : DE M X (.List es pos) (fPool fr) := by
  refine peMono (pe_lst h) fun σ H Q h => ?_
  obtain ⟨F, O, P, ρ, R, g, en, q, po⟩ := h
  refine ⟨F, O, P, ρ, _, g, en, q, fun xs O1 F1 H1 vs q1 s1 g1 r1 => ?_⟩
  unfold rPool at q1
  split at q1
  · simp only [RepAll, Rep] at r1
    obtain ⟨_, _, rfl, rfl, _, _, rfl, rfl, rfl⟩ := r1
    refine ⟨show 2 ≤ sizeLine by decide, fun p hp => ?_⟩
    exact po (.ref p) _ F1 _ _ (q1.2.2.2 p (g1.freeO hp)) s1 (g1.newO hp ⟨_, _, upd_same, q1.1, q1.2.1, q1.2.2.1⟩) (by simp only [Rep])
  · exact q1.elim
end
end Kf
namespace Kf
open PySem PySem.Spec L2
open PyProof.Rows hiding St
variable {M : MX}

/-! ### data that is told apart by == -/
mutual
def toPy : D → PyData
  | .non => .none
  | .bl b => .bool b
  | .int i => .int i
  | .str x => .str x
  | .tup ds => .tuple (toPys ds)
  | .lst ds => .list (toPys ds)
  | .ref _ => .dict []
  | .ty _ => .dict []
  | .scr ns => .list (ns.map .int)
  | .edic => .dict []
  | .tupK _ => .dict []
def toPys : List D → List PyData
  | [] => []
  | d :: ds => toPy d :: toPys ds
end
mutual
def isPy : D → Bool
  | .non => true
  | .bl _ => true
  | .int _ => true
  | .str x => PyData.strOk x
  | .tup ds => isPys ds
  | .lst ds => isPys ds
  | .ref _ => false
  | .ty _ => false
  | .scr _ => false
  | .edic => false
  | .tupK _ => false
def isPys : List D → Bool
  | [] => true
  | d :: ds => isPy d && isPys ds
end
theorem toPys_map : ∀ ds : List D, toPys ds = ds.map toPy
  | [] => rfl
  | d :: ds => by rw [toPys, toPys_map ds, List.map_cons]
theorem isPys_all : ∀ ds : List D, isPys ds = ds.all isPy
  | [] => rfl
  | d :: ds => by rw [isPys, isPys_all ds, List.all_cons]
mutual
theorem isPy_lay : ∀ d : D, isPy d = true → (toPy d).canLay0 = true
  | .non, _ => by simp only [toPy, PyData.canLay0]
  | .bl _, _ => by simp only [toPy, PyData.canLay0]
  | .int _, _ => by simp only [toPy, PyData.canLay0]
  | .str x, h => by simp only [isPy] at h; simp only [toPy, PyData.canLay0]; exact h
  | .tup ds, h => by simp only [isPy] at h; simp only [toPy, PyData.canLay0]; exact isPys_lay ds h
  | .lst ds, h => by simp only [isPy] at h; simp only [toPy, PyData.canLay0]; exact isPys_lay ds h
  | .ref _, h => by simp only [isPy] at h; cases h
  | .ty _, h => by simp only [isPy] at h; cases h
  | .scr _, h => by simp only [isPy] at h; cases h
  | .edic, h => by simp only [isPy] at h; cases h
  | .tupK _, h => by simp only [isPy] at h; cases h
theorem isPys_lay : ∀ ds : List D, isPys ds = true → PyData.canLayAll0 (toPys ds) = true
  | [], _ => by simp only [toPys, PyData.canLayAll0]
  | d :: ds, h => by
    simp only [isPys, Bool.and_eq_true] at h
    simp only [toPys, PyData.canLayAll0, Bool.and_eq_true]
    exact ⟨isPy_lay d h.1, isPys_lay ds h.2⟩
end
/-- how deep a datum is -/
def dp (d : D) : Nat := (toPy d).depth
section
variable {K : PySem.W.Frag} {F H : Hp}
mutual
theorem Rep.dp (s : Same F H) : ∀ (d : D) (v : V), isPy d = true → Rep K F d v → Dp K H v (toPy d)
  | .non, v, _, r => by simp only [Rep] at r; subst r; simp only [toPy]; exact .non
  | .bl b, v, _, r => by simp only [Rep] at r; subst r; simp only [toPy]; exact .bl b
  | .int b, v, _, r => by simp only [Rep] at r; subst r; simp only [toPy]; exact .int b
  | .str b, v, _, r => by simp only [Rep] at r; subst r; simp only [toPy]; exact .str b
  | .tup ds, v, h, r => by
    simp only [isPy] at h
    simp only [Rep] at r
    obtain ⟨a, xs, rfl, r1, r2⟩ := r
    simp only [toPy]
    exact .tup (Same.seqT s r1) (RepAll.dp s ds xs h r2)
  | .lst ds, v, h, r => by
    simp only [isPy] at h
    simp only [Rep] at r
    obtain ⟨a, xs, rfl, r1, r2⟩ := r
    simp only [toPy]
    exact .lst (SqL.of (s _ _ r1)) (RepAll.dp s ds xs h r2)
  | .ref _, _, h, _ => by simp only [isPy] at h; cases h
  | .ty _, _, h, _ => by simp only [isPy] at h; cases h
  | .scr _, _, h, _ => by simp only [isPy] at h; cases h
  | .edic, _, h, _ => by simp only [isPy] at h; cases h
  | .tupK _, _, h, _ => by simp only [isPy] at h; cases h
theorem RepAll.dp (s : Same F H) : ∀ (ds : List D) (vs : List V), isPys ds = true → RepAll K F ds vs → DpAll K H vs (toPys ds)
  | [], vs, _, r => by simp only [RepAll] at r; subst r; simp only [toPys]; exact .nil
  | d :: ds, vs, h, r => by
    simp only [isPys, Bool.and_eq_true] at h
    simp only [RepAll] at r
    obtain ⟨v, q, rfl, r1, r2⟩ := r
    simp only [toPys]
    exact .cons (Rep.dp s d v h.1 r1) (RepAll.dp s ds q h.2 r2)
end
end

/-! ### an owned list read -/
def deref (O : Ow) : D → D
  | .ref a => match O a with
    | some (.lst ds) => .lst ds
    | _ => .ref a
  | d => d
/-- as Rep, but a list may be owned -/
def RepH (K : PySem.W.Frag) (F H : Hp) (d : D) (v : V) : Prop := match d with
  | .lst ds => ∃ a xs, v = .ref a ∧ H a = some (.lst xs) ∧ RepAll K F ds xs
  | d => Rep K F d v
section
variable {K : PySem.W.Frag} {F P H : Hp} {O : Ow}
theorem Gd.deref (g : Gd M K F O P H) {d : D} {v : V} (r : Rep K F d v) : RepH K F H (deref O d) v := by
  cases d with
  | lst ds =>
    simp only [Rep] at r
    obtain ⟨a, xs, e, h1, h2⟩ := r
    exact ⟨a, xs, e, g.fz _ _ h1, h2⟩
  | ref a =>
    cases e : O a with
    | none =>
      have z : Kf.deref O (.ref a) = .ref a := by simp only [Kf.deref, e]
      rw [z]; exact r
    | some c =>
      cases c with
      | pool =>
        have z : Kf.deref O (.ref a) = .ref a := by simp only [Kf.deref, e]
        rw [z]; exact r
      | dic kvs =>
        have z : Kf.deref O (.ref a) = .ref a := by simp only [Kf.deref, e]
        rw [z]; exact r
      | dicL kvs o =>
        have z : Kf.deref O (.ref a) = .ref a := by simp only [Kf.deref, e]
        rw [z]; exact r
      | exc _ _ =>
        have z : Kf.deref O (.ref a) = .ref a := by simp only [Kf.deref, e]
        rw [z]; exact r
      | ins _ _ =>
        have z : Kf.deref O (.ref a) = .ref a := by simp only [Kf.deref, e]
        rw [z]; exact r
      | dicT _ =>
        have z : Kf.deref O (.ref a) = .ref a := by simp only [Kf.deref, e]
        rw [z]; exact r
      | lst ds =>
        have z : Kf.deref O (.ref a) = .lst ds := by simp only [Kf.deref, e]
        rw [z]
        obtain ⟨_, _, vs, h1, h2⟩ := g.ow a _ e
        simp only [Rep] at r
        exact ⟨a, vs, r, h1, h2⟩
  | _ => exact r
theorem RepH.dp (s : Same F H) {d : D} {v : V} (h : isPy d = true) (r : RepH K F H d v) : Dp K H v (toPy d) := by
  cases d with
  | lst ds =>
    obtain ⟨a, xs, rfl, h1, h2⟩ := r
    simp only [isPy] at h
    simp only [toPy]
    exact .lst (SqL.of h1) (RepAll.dp s ds xs h h2)
  | _ => exact Rep.dp s _ v h r

/-- read through owned lists at any depth -/
def ddf (O : Ow) : Nat → D → D
  | 0, d => d
  | n + 1, .ref a => match O a with
    | some (.lst ds) => .lst (ds.map (ddf O n))
    | _ => .ref a
  | n + 1, .tup ds => .tup (ds.map (ddf O n))
  | n + 1, .lst ds => .lst (ds.map (ddf O n))
  | _ + 1, d => d
theorem repAll_map {f : D → D} {F' : Hp} (h : ∀ d v, Rep K F d v → Rep K F' (f d) v) : ∀ {ds : List D} {vs : List V}, RepAll K F ds vs → RepAll K F' (ds.map f) vs
  | [], _, r => by simp only [RepAll] at r; subst r; exact .nil
  | d :: ds, _, r => by
    simp only [RepAll] at r
    obtain ⟨v, w, rfl, r1, r2⟩ := r
    rw [List.map_cons]
    exact .cons (h d v r1) (repAll_map h r2)
theorem Gd.ddf (g : Gd M K F O P H) : ∀ (n : Nat) (d : D) (v : V), Rep K F d v → Rep K H (ddf O n d) v
  | 0, d, v, r => r.mono g.fz
  | n + 1, d, v, r => by
    cases d with
    | tup ds =>
      simp only [Rep] at r
      obtain ⟨a, xs, e, h1, h2⟩ := r
      simp only [Kf.ddf, Rep]
      exact ⟨a, xs, e, Same.seqT g.fz h1, repAll_map (Gd.ddf g n) h2⟩
    | lst ds =>
      simp only [Rep] at r
      obtain ⟨a, xs, e, h1, h2⟩ := r
      simp only [Kf.ddf, Rep]
      exact ⟨a, xs, e, g.fz _ _ h1, repAll_map (Gd.ddf g n) h2⟩
    | ref a =>
      cases e : O a with
      | none =>
        have z : Kf.ddf O (n + 1) (.ref a) = .ref a := by simp only [Kf.ddf, e]
        rw [z]; exact r.mono g.fz
      | some c =>
        cases c with
        | lst ds =>
          have z : Kf.ddf O (n + 1) (.ref a) = .lst (ds.map (Kf.ddf O n)) := by simp only [Kf.ddf, e]
          rw [z]
          obtain ⟨_, _, vs, h1, h2⟩ := g.ow a _ e
          simp only [Rep] at r ⊢
          exact ⟨a, vs, r, h1, repAll_map (Gd.ddf g n) h2⟩
        | _ =>
          have z : Kf.ddf O (n + 1) (.ref a) = .ref a := by simp only [Kf.ddf, e]
          rw [z]; exact r.mono g.fz
    | _ => simp only [Kf.ddf]; exact r.mono g.fz
/-! what holds no owned list is read as it is -/
theorem ddf_py {O : Ow} : ∀ (n : Nat) (d : D), isPy d = true → ddf O n d = d
  | 0, d, h => rfl
  | n + 1, d, h => by
    have hm : ∀ ds : List D, isPys ds = true → ds.map (ddf O n) = ds := fun ds hd => by
      rw [isPys_all, List.all_eq_true] at hd
      exact (List.map_congr_left fun x hx => ddf_py n x (hd x hx)).trans (List.map_id' ds)
    cases d with
    | tup ds => simp only [isPy] at h; simp only [ddf, hm ds h]
    | lst ds => simp only [isPy] at h; simp only [ddf, hm ds h]
    | ref a => simp [isPy] at h
    | _ => rfl
theorem ddf_deref {O : Ow} {n : Nat} {d : D} (h : isPy (deref O d) = true) : ddf O (n + 1) d = deref O d := by
  cases d with
  | ref a =>
    cases e : O a with
    | none =>
      have z : deref O (.ref a) = .ref a := by simp only [deref, e]
      rw [z] at h; simp [isPy] at h
    | some c =>
      cases c with
      | lst ds =>
        have z : deref O (.ref a) = .lst ds := by simp only [deref, e]
        have z2 : ddf O (n + 1) (.ref a) = .lst (ds.map (ddf O n)) := by simp only [ddf, e]
        rw [z] at h ⊢
        rw [z2]
        simp only [isPy] at h
        rw [isPys_all, List.all_eq_true] at h
        rw [(List.map_congr_left fun x hx => ddf_py n x (h x hx)).trans (List.map_id' ds)]
      | _ =>
        have z : deref O (.ref a) = .ref a := by simp only [deref, e]
        rw [z] at h; simp [isPy] at h
  | _ => exact ddf_py (n + 1) _ h
/-! ### ends -/
theorem PostE.at {R : VD} {Q : VK} {d : D} {v : V} (po : PostE M K F P R Q) (g : Gd M K F O P H) (h : R d O) (r : Rep K F d v) : Q v H := po d O F H v h (Same.refl _) g r
theorem PostE.lst {R : VD} {Q : VK} {ds : List D} {vs : List V} {p : Addr} (po : PostE M K F P R Q) (g : Gd M K F O P H) (h : R (.lst ds) O) (r : RepAll K F ds vs) (hp : H p = none) : Q (.ref p) (upd H p (.lst vs)) := by
  have hF := g.freeF hp
  refine po (.lst ds) O (upd F p (.lst vs)) _ _ h (same_upd hF) (g.new hp) ?_
  simp only [Rep]
  exact ⟨p, vs, rfl, upd_same, r.mono (same_upd hF)⟩
theorem PostE.tup {R : VD} {Q : VK} {ds : List D} {vs : List V} {p : Addr} (po : PostE M K F P R Q) (g : Gd M K F O P H) (h : R (.tup ds) O) (r : RepAll K F ds vs) (hp : H p = none) : Q (.ref p) (upd H p (.tup vs)) := by
  have hF := g.freeF hp
  refine po (.tup ds) O (upd F p (.tup vs)) _ _ h (same_upd hF) (g.new hp) ?_
  simp only [Rep]
  exact ⟨p, vs, rfl, .inl (.inl upd_same), r.mono (same_upd hF)⟩
theorem PostE.lstO {R : VD} {Q : VK} {ds : List D} {vs : List V} {p : Addr} (po : PostE M K F P R Q) (g : Gd M K F O P H) (h : ∀ p, O p = none → R (.ref p) (updO O p (.lst ds))) (r : RepAll K F ds vs) (hp : H p = none) : Q (.ref p) (upd H p (.lst vs)) :=
  po (.ref p) _ F _ _ (h p (g.freeO hp)) (Same.refl _) (g.newO hp ⟨vs, upd_same, r⟩) (by simp only [Rep])
theorem PostE.more {R : VD} {Q : VK} {F' : Hp} (po : PostE M K F P R Q) (s : Same F F') : PostE M K F' P R Q := fun d O' F2 H' v q s2 g r => po d O' F2 H' v q (s.trans s2) g r
end

section
variable {X : Cx}
theorem opD_of {f : Value → Value → Sem Value} {r : R2D}
    (h : ∀ (pins : List (Addr × Obj)) (s : Shared) (σ : St) (F P H : Hp) (O : Ow) (x y : V) (dx dy : D) (v u : Value) (R : VD) (Q : VK), Inv X pins σ H s → RelV x v → RelV y u → Gd M X.K F O P H → Rep X.K F dx x → Rep X.K F dy y → r dx dy O R → PostE M X.K F P R Q →
      ∃ r0, OpR X f r0 ∧ r0 x y H Q) : OpD M X f r := by
  intro pins s σ H x y v u Q I rx ry q
  obtain ⟨F, O, P, dx, dy, R, g, r1, r2, q, po⟩ := q
  obtain ⟨r0, o, z⟩ := h pins s σ F P H O x y dx dy v u R Q I rx ry g r1 r2 q po
  exact o pins s σ H x y v u Q I rx ry z

/-! ### + - * // % ** -/
def rAddD : R2D := fun x y O Q => match deref O x, deref O y with
  | .int i, .int j => Q (.int (i + j)) O
  | .int i, .bl k => Q (.int (i + b2i k)) O
  | .str i, .str j => i.length + j.length ≤ sizeLine ∧ Q (.str (i ++ j)) O
  | .lst xs, .lst ys => xs.length + ys.length ≤ sizeLine ∧ Q (.lst (xs ++ ys)) O
  | .tup xs, .tup ys => xs ≠ [] ∧ xs.length + ys.length ≤ sizeLine ∧ Q (.tup (xs ++ ys)) O
  | _, _ => False
/-- .. of two lists, the new one owned -/
def rCatO : R2D := fun x y O Q => match deref O x, deref O y with
  | .lst xs, .lst ys => xs.length + ys.length ≤ sizeLine ∧ ∀ p, O p = none → Q (.ref p) (updO O p (.lst (xs ++ ys)))
  | _, _ => False
theorem od_add : OpD M X (binaryOp .Add) rAddD := by
  refine opD_of fun pins s σ F P H O x y dx dy v u R Q I rx ry g r1 r2 q po => ?_
  have h1 := g.deref r1
  have h2 := g.deref r2
  unfold rAddD at q
  revert q h1 h2
  generalize Kf.deref O dx = ex
  generalize Kf.deref O dy = ey
  intro q h1 h2
  cases ex <;> cases ey <;> first | exact q.elim | skip
  · simp only [RepH, Rep] at h1 h2
    exact ⟨_, op_add_ib, _, _, h1, h2, po.at g q (by simp only [Rep])⟩
  · simp only [RepH, Rep] at h1 h2
    exact ⟨_, op_add, _, _, h1, h2, po.at g q (by simp only [Rep])⟩
  · simp only [RepH, Rep] at h1 h2
    exact ⟨_, op_add_str, _, _, h1, h2, q.1, po.at g q.2 (by simp only [Rep])⟩
  · simp only [RepH, Rep] at h1 h2
    obtain ⟨a, xs, rfl, a1, a2⟩ := h1
    obtain ⟨b, ys, rfl, b1, b2⟩ := h2
    obtain ⟨q1, q2, q3⟩ := q
    refine ⟨_, op_catT, a, b, xs, ys, rfl, rfl, Same.seqT g.fz a1, Same.seqT g.fz b1, ?_, by rw [← a2.length, ← b2.length]; exact q2, fun e => ?_, fun e p hp => ?_⟩
    · intro e; rw [e] at a2; have := a2.length; exact q1 (List.eq_nil_of_length_eq_zero (by simpa using this))
    · rw [e] at b2
      have l0 := b2.length
      rename_i ex ey
      have e0 : ey = [] := List.eq_nil_of_length_eq_zero (by simpa using l0)
      rw [e0, List.append_nil] at q3
      refine po.at g q3 ?_
      simp only [Rep]
      exact ⟨a, xs, rfl, a1, a2⟩
    · exact po.tup g q3 (a2.append b2) hp
  · obtain ⟨a, xs, rfl, a1, a2⟩ := h1
    obtain ⟨b, ys, rfl, b1, b2⟩ := h2
    exact ⟨_, op_cat, a, b, xs, ys, rfl, rfl, a1, b1, by rw [← a2.length, ← b2.length]; exact q.1, fun p hp => po.lst g q.2 (a2.append b2) hp⟩
def rInts (C : Int → Int → Prop) (f : Int → Int → D) : R2D := fun x y O Q => match x, y with
  | .int i, .int j => C i j ∧ Q (f i j) O
  | _, _ => False
theorem od_ints {f : Value → Value → Sem Value} {C : Int → Int → Prop} {g : Int → Int → V} {k : Int → Int → D} (h : OpR X f (rI C g)) (hk : ∀ F i j, Rep X.K F (k i j) (g i j)) : OpD M X f (rInts C k) := by
  refine opD_of fun pins s σ F P H O x y dx dy v u R Q I rx ry gd r1 r2 q po => ?_
  unfold rInts at q
  cases dx <;> first | exact q.elim | skip
  cases dy <;> first | exact q.elim | skip
  simp only [Rep] at r1 r2
  exact ⟨_, h, _, _, r1, r2, q.1, po.at gd q.2 (hk F _ _)⟩
def rInts0 (f : Int → Int → D) : R2D := fun x y O Q => match x, y with
  | .int i, .int j => Q (f i j) O
  | _, _ => False
theorem od_ints0 {f : Value → Value → Sem Value} {g : Int → Int → V} {k : Int → Int → D} (h : OpR X f (rI0 g)) (hk : ∀ F i j, Rep X.K F (k i j) (g i j)) : OpD M X f (rInts0 k) := by
  refine opD_of fun pins s σ F P H O x y dx dy v u R Q I rx ry gd r1 r2 q po => ?_
  unfold rInts0 at q
  cases dx <;> first | exact q.elim | skip
  cases dy <;> first | exact q.elim | skip
  simp only [Rep] at r1 r2
  exact ⟨_, h, _, _, r1, r2, po.at gd q (hk F _ _)⟩
theorem od_sub : OpD M X (binaryOp .Sub) (rInts0 fun i j => .int (i - j)) := od_ints0 op_sub fun _ _ _ => by simp only [Rep]
theorem od_mul : OpD M X (binaryOp .Mult) (rInts CMul fun i j => .int (i * j)) := od_ints op_mul fun _ _ _ => by simp only [Rep]
/-- // and divmod by a positive divisor below 2 ^ 60 -/
def CDv (i j : Int) : Prop := 0 < j ∧ j < 1329227995784915872903807060280344576
theorem CDv.w {i j : Int} (h : CDv i j) : CDivW i j := by
  obtain ⟨h1, h2⟩ := h
  exact wide_div h1 (b := 120) (by omega) (by decide) (by decide)
theorem op_fdivV : OpR X (binaryOp .FloorDiv) (rI CDv fun i j => .int (i / j)) := fun pins s σ H x y v u Q I rx ry ⟨i, j, e1, e2, c, q⟩ => op_fdivW pins s σ H x y v u Q I rx ry ⟨i, j, e1, e2, c.w, q⟩
theorem od_div : OpD M X (binaryOp .FloorDiv) (rInts CDv fun i j => .int (i / j)) := od_ints op_fdivV fun _ _ _ => by simp only [Rep]
theorem od_mod : OpD M X (binaryOp .Mod) (rInts (fun _ j => 0 < j) fun i j => .int (i % j)) := od_ints op_mod fun _ _ _ => by simp only [Rep]
theorem od_pow : OpD M X (binaryOp .Pow) (rInts CPow fun i j => .int (i ^ j.toNat)) := od_ints op_pow fun _ _ _ => by simp only [Rep]
/-! ### comparisons -/
/-- < of ints, of texts -/
def rLtD : R2D := fun x y O Q => match x, y with
  | .int i, .int j => Q (.bl (decide (i < j))) O
  | .str i, .str j => Q (.bl (decide (i.cps.toList < j.cps.toList))) O
  | _, _ => False
theorem od_lt : OpD M X (compareOp .Lt) rLtD := by
  refine opD_of fun pins s σ F P H O x y dx dy v u R Q I rx ry gd r1 r2 q po => ?_
  unfold rLtD at q
  cases dx <;> first | exact q.elim | skip
  all_goals cases dy <;> first | exact q.elim | skip
  · simp only [Rep] at r1 r2
    exact ⟨_, op_lt, _, _, r1, r2, po.at gd q (by simp only [Rep])⟩
  · simp only [Rep] at r1 r2
    exact ⟨_, op_lt_str, _, _, r1, r2, po.at gd q (by simp only [Rep])⟩
def rLeD : R2D := fun x y O Q => match x, y with
  | .int i, .int j => Q (.bl (decide (i ≤ j))) O
  | .str i, .str j => Q (.bl (!decide (j.cps.toList < i.cps.toList))) O
  | _, _ => False
theorem od_le : OpD M X (compareOp .LtE) rLeD := by
  refine opD_of fun pins s σ F P H O x y dx dy v u R Q I rx ry gd r1 r2 q po => ?_
  unfold rLeD at q
  cases dx <;> first | exact q.elim | skip
  all_goals cases dy <;> first | exact q.elim | skip
  · simp only [Rep] at r1 r2
    exact ⟨_, op_le, _, _, r1, r2, po.at gd q (by simp only [Rep])⟩
  · simp only [Rep] at r1 r2
    exact ⟨_, op_le_str, _, _, r1, r2, po.at gd q (by simp only [Rep])⟩
theorem od_gt : OpD M X (compareOp .Gt) (rInts0 fun i j => .bl (decide (j < i))) := od_ints0 op_gt fun _ _ _ => by simp only [Rep]
theorem od_ge : OpD M X (compareOp .GtE) (rInts0 fun i j => .bl (decide (j ≤ i))) := od_ints0 op_ge fun _ _ _ => by simp only [Rep]
/-- == of data; the answer by eqv -/
def rEqD (neg : Bool) : R2D := fun x y O Q => isPy (ddf O 192 x) = true ∧ isPy (ddf O 192 y) = true ∧ min (dp (ddf O 192 x)) (dp (ddf O 192 y)) ≤ 190 ∧ Q (.bl (neg ^^ PyData.eqv (toPy (ddf O 192 x)) (toPy (ddf O 192 y)))) O
theorem od_eq (hu : X.A.units + 200 < cLine) : OpD M X (compareOp .Eq) (rEqD false) := by
  intro pins s σ H x y v u Q I rx ry q
  obtain ⟨F, O, P, dx, dy, R, g, r1, r2, ⟨q1, q2, q3, q4⟩, po⟩ := q
  obtain ⟨as, w1⟩ := Dp.reads I _ x v (Rep.dp (Same.refl _) _ _ q1 (g.ddf 192 _ _ r1)) rx
  obtain ⟨bs, w2⟩ := Dp.reads I _ y u (Rep.dp (Same.refl _) _ _ q2 (g.ddf 192 _ _ r2)) ry
  have hroom : X.A.units + min (toPy (ddf O 192 dx)).depth (toPy (ddf O 192 dy)).depth < cLine := by
    have : min (toPy (ddf O 192 dx)).depth (toPy (ddf O 192 dy)).depth ≤ 190 := q3
    omega
  refine SeqAt.compareEq_reads w1 w2 (isPy_lay _ q1) (isPy_lay _ q2) hroom ⟨.bl _, H, I, rfl, ?_⟩
  rw [Bool.false_xor] at q4
  exact po.at g q4 (by simp only [Rep])
theorem od_ne (hu : X.A.units + 200 < cLine) : OpD M X (compareOp .NotEq) (rEqD true) := by
  intro pins s σ H x y v u Q I rx ry q
  obtain ⟨F, O, P, dx, dy, R, g, r1, r2, ⟨q1, q2, q3, q4⟩, po⟩ := q
  obtain ⟨as, w1⟩ := Dp.reads I _ x v (Rep.dp (Same.refl _) _ _ q1 (g.ddf 192 _ _ r1)) rx
  obtain ⟨bs, w2⟩ := Dp.reads I _ y u (Rep.dp (Same.refl _) _ _ q2 (g.ddf 192 _ _ r2)) ry
  have hroom : X.A.units + min (toPy (ddf O 192 dx)).depth (toPy (ddf O 192 dy)).depth < cLine := by
    have : min (toPy (ddf O 192 dx)).depth (toPy (ddf O 192 dy)).depth ≤ 190 := q3
    omega
  refine SeqAt.compareNe_reads w1 w2 (isPy_lay _ q1) (isPy_lay _ q2) hroom ⟨.bl _, H, I, rfl, ?_⟩
  rw [Bool.true_xor] at q4
  exact po.at g q4 (by simp only [Rep])
/-- is None, is not None -/
def isNon : D → Bool
  | .non => true
  | _ => false
theorem Rep.isNon {K : PySem.W.Frag} {F : Hp} {d : D} {v : V} (r : Rep K F d v) : decide (v = .non) = isNon d := by
  cases d <;> simp only [Rep] at r <;> first | (subst r; rfl) | (obtain ⟨a, xs, rfl, _⟩ := r; rfl) | (obtain ⟨a, rfl, _⟩ := r; rfl)
def rIsN (neg : Bool) : R2D := fun x y O Q => match y with
  | .non => Q (.bl (neg ^^ isNon x)) O
  | _ => False
theorem od_is : OpD M X (compareOp .Is) (rIsN false) := by
  refine opD_of fun pins s σ F P H O x y dx dy v u R Q I rx ry g r1 r2 q po => ?_
  unfold rIsN at q
  cases dy <;> first | exact q.elim | skip
  simp only [Rep] at r2
  refine ⟨_, op_isN, r2, ?_⟩
  rw [Bool.false_xor] at q
  rw [r1.isNon]
  exact po.at g q (by simp only [Rep])
def rInD (neg : Bool) : R2D := fun x y O Q => match deref O y with
  | .str z => match x with
    | .str i => ∃ c, i = ⟨#[c]⟩ ∧ Q (.bl (neg ^^ decide (c ∈ z.cps.toList))) O
    | _ => False
  | .lst ds => isPy (deref O x) = true ∧ isPys ds = true ∧ dp (deref O x) ≤ 190 ∧ Q (.bl (neg ^^ ds.any fun z => PyData.eqv (toPy z) (toPy (deref O x)))) O
  | .tup ds => isPy (deref O x) = true ∧ isPys ds = true ∧ dp (deref O x) ≤ 190 ∧ Q (.bl (neg ^^ ds.any fun z => PyData.eqv (toPy z) (toPy (deref O x)))) O
  | _ => False
theorem any_toPys (d : PyData) : ∀ ds : List D, (toPys ds).any (fun z => PyData.eqv z d) = ds.any fun z => PyData.eqv (toPy z) d
  | [] => rfl
  | x :: ds => by rw [toPys, List.any_cons, List.any_cons, any_toPys d ds]
theorem od_in_gen {op : CmpOp} {neg : Bool} (hu : X.A.units + 200 < cLine)
    (h1 : OpR X (compareOp op) (fun x y H Q => ∃ (c : Nat) (z : Str), x = .str ⟨#[c]⟩ ∧ y = .str z ∧ Q (.bl (neg ^^ decide (c ∈ z.cps.toList))) H))
    (h2 : ∀ (pins : List (Addr × Obj)) (s : Shared) (σ : St) (H : Hp) (x y : V) (v u : Value) (Q : VK) (d : PyData) (ds : List PyData), Inv X pins σ H s → RelV x v → RelV y u → Dp X.K H x d → Dp X.K H y (.list ds) → d.canLay0 = true → PyData.canLayAll0 ds = true → d.depth ≤ 190 →
      Q (.bl (neg ^^ ds.any fun z => PyData.eqv z d)) H → wpAny (model X.prog X.w) X.A (compareOp op v u) (EP X pins σ Q) X.xe s)
    (h3 : ∀ (pins : List (Addr × Obj)) (s : Shared) (σ : St) (H : Hp) (x y : V) (v u : Value) (Q : VK) (d : PyData) (ds : List PyData), Inv X pins σ H s → RelV x v → RelV y u → Dp X.K H x d → Dp X.K H y (.tuple ds) → d.canLay0 = true → PyData.canLayAll0 ds = true → d.depth ≤ 190 →
      Q (.bl (neg ^^ ds.any fun z => PyData.eqv z d)) H → wpAny (model X.prog X.w) X.A (compareOp op v u) (EP X pins σ Q) X.xe s) : OpD M X (compareOp op) (rInD neg) := by
  intro pins s σ H x y v u Q I rx ry q
  obtain ⟨F, O, P, dx, dy, R, g, r1, r2, q, po⟩ := q
  have e2 := g.deref r2
  unfold rInD at q
  revert q e2
  generalize hey : Kf.deref O dy = ey
  intro q e2
  cases ey <;> first | exact q.elim | skip
  · cases dx <;> first | exact q.elim | skip
    simp only [RepH, Rep] at e2 r1
    obtain ⟨c, rfl, q⟩ := q
    exact h1 pins s σ H x y v u Q I rx ry ⟨c, _, r1, e2, po.at g q (by simp only [Rep])⟩
  · simp only [RepH, Rep] at e2
    obtain ⟨b, ys, rfl, b1, b2⟩ := e2
    obtain ⟨q1, q2, q3, q4⟩ := q
    refine h3 pins s σ H x _ v u Q _ _ I rx ry ((g.deref r1).dp g.fz q1) (.tup (Same.seqT g.fz b1) (RepAll.dp g.fz _ ys q2 b2)) (isPy_lay _ q1) (isPys_lay _ q2) q3 ?_
    rw [any_toPys]
    exact po.at g q4 (by simp only [Rep])
  · obtain ⟨q1, q2, q3, q4⟩ := q
    obtain ⟨b, ys, rfl, b1, b2⟩ := e2
    refine h2 pins s σ H x _ v u Q _ _ I rx ry ((g.deref r1).dp g.fz q1) (.lst (SqL.of b1) (RepAll.dp g.fz _ ys q2 b2)) (isPy_lay _ q1) (isPys_lay _ q2) q3 ?_
    rw [any_toPys]
    exact po.at g q4 (by simp only [Rep])
theorem od_in (hu : X.A.units + 200 < cLine) : OpD M X (compareOp .In) (rInD false) := by
  refine od_in_gen hu (fun pins s σ H x y v u Q I rx ry q => ?_) (fun pins s σ H x y v u Q d ds I rx ry hd he c1 c2 c3 q => ?_) (fun pins s σ H x y v u Q d ds I rx ry hd he c1 c2 c3 q => ?_)
  · obtain ⟨c, z, e1, e2, q⟩ := q
    rw [Bool.false_xor] at q
    exact op_in_sign pins s σ H x y v u Q I rx ry ⟨c, z, e1, e2, q⟩
  · obtain ⟨as, r1⟩ := Dp.reads I d x v hd rx
    obtain ⟨bs, r2⟩ := Dp.reads I (.list ds) y u he ry
    rw [Bool.false_xor] at q
    exact SeqAt.in_list_reads r2 r1 c2 c1 (by omega) ⟨.bl _, H, I, rfl, q⟩
  · obtain ⟨as, r1⟩ := Dp.reads I d x v hd rx
    obtain ⟨bs, r2⟩ := Dp.reads I (.tuple ds) y u he ry
    rw [Bool.false_xor] at q
    exact SeqAt.in_tuple_reads r2 r1 c2 c1 (by omega) ⟨.bl _, H, I, rfl, q⟩
end
end Kf
namespace Kf
open PySem PySem.Spec L2
open PyProof.Rows hiding St
variable {M : MX}

section
variable {X : Cx} {a b e : Expr} {es : List Expr} {fa fb : FE} {fr : FA} {pos p2 : Pos}

/-! ### subscripts -/
def rIxD : R2D := fun x y O Q => match deref O x, y with
  | .lst ds, .int i => match atI ds i with
    | some d => Q d O
    | none => False
  | .tup ds, .int i => match atI ds i with
    | some d => Q d O
    | none => False
  | .str z, .int i => z.length ≤ sizeLine ∧ match atI z.cps.toList i with
    | some c => Q (.str ⟨#[c]⟩) O
    | none => False
  | .scr ns, .int i => match atI ns i with
    | some n => Q (.int n) O
    | none => False
  | .ref a, .int i => match O a with
    | some .pool => (i = 0 ∧ ∀ x : Int, 0 ≤ x → Q (.int x) O) ∨ (i = 1 ∧ ∀ x : Int, 0 ≤ x → x < 2147483647 → Q (.int x) O)
    | _ => False
  | _, _ => False
theorem RepAll.atI {K : PySem.W.Frag} {F : Hp} {ds : List D} {vs : List V} {i : Int} {d : D} (r : RepAll K F ds vs) (h : atI ds i = some d) : ∃ v, L2.atI vs i = some v ∧ Rep K F d v := by
  unfold L2.atI at h ⊢
  rw [← r.length]
  obtain ⟨j, h1, h2⟩ := Option.bind_eq_some_iff.mp h
  obtain ⟨v, e, q⟩ := r.get h2
  exact ⟨v, Option.bind_eq_some_iff.mpr ⟨j, h1, e⟩, q⟩
theorem atI_map {α β : Type} (f : α → β) (xs : List α) (i : Int) : L2.atI (xs.map f) i = (L2.atI xs i).map f := by
  unfold L2.atI
  rw [List.length_map]
  cases ixN xs.length i with
  | none => rfl
  | some j => simp
theorem id_ix : IxR X (liftR2 M X.K rIxD) := by
  intro value slice pins s σ H x y v u Q I rx ry q hp
  obtain ⟨F, O, P, dx, dy, R, g, r1, r2, q, po⟩ := q
  have h1 := g.deref r1
  unfold rIxD at q
  revert q h1
  generalize Kf.deref O dx = ex
  intro q h1
  cases ex <;> first | exact q.elim | skip
  all_goals cases dy <;> first | exact q.elim | skip
  all_goals simp only [Rep] at r2; subst r2
  · rename_i z i
    simp only [RepH, Rep] at h1; subst h1
    dsimp only at q
    obtain ⟨q0, q⟩ := q
    cases e : L2.atI z.cps.toList i with
    | none => rw [e] at q; exact q.elim
    | some c =>
      rw [e] at q
      exact ix_str value slice pins s σ H _ _ v u Q I rx ry ⟨z, i, c, rfl, rfl, q0, e, po.at g q (by simp only [Rep])⟩ hp
  · rename_i ds i
    simp only [RepH, Rep] at h1
    obtain ⟨c, xs, rfl, h1, h2⟩ := h1
    dsimp only at q
    cases e : L2.atI ds i with
    | none => rw [e] at q; exact q.elim
    | some d =>
      rw [e] at q
      obtain ⟨w, e2, rw'⟩ := h2.atI e
      exact ix_tup value slice pins s σ H _ _ v u Q I rx ry ⟨c, xs, i, w, rfl, rfl, Same.seqT g.fz h1, e2, po.at g q rw'⟩ hp
  · rename_i ds i
    obtain ⟨c, xs, rfl, h1, h2⟩ := h1
    dsimp only at q
    cases e : L2.atI ds i with
    | none => rw [e] at q; exact q.elim
    | some d =>
      rw [e] at q
      obtain ⟨w, e2, rw'⟩ := h2.atI e
      exact ix_list value slice pins s σ H _ _ v u Q I rx ry ⟨c, xs, i, w, rfl, rfl, SqL.of h1, e2, po.at g q rw'⟩ hp
  · rename_i c i
    simp only [RepH, Rep] at h1
    subst h1
    dsimp only at q
    cases e : O c with
    | none => rw [e] at q; exact q.elim
    | some cl =>
      rw [e] at q
      cases cl with
      | lst _ => exact q.elim
      | dic _ => exact q.elim
      | dicL _ _ => exact q.elim
      | exc _ _ => exact q.elim
      | ins _ _ => exact q.elim
      | dicT _ => exact q.elim
      | pool =>
        obtain ⟨_, _, z, y, hH, h2, h3, h4⟩ := g.ow c _ e
        rcases q with ⟨rfl, q⟩ | ⟨rfl, q⟩
        · exact ix_list value slice pins s σ H _ _ v u Q I rx ry ⟨c, _, 0, .int z, rfl, rfl, SqL.of hH, rfl, po.at g (q z h2) (by simp only [Rep])⟩ hp
        · exact ix_list value slice pins s σ H _ _ v u Q I rx ry ⟨c, _, 1, .int y, rfl, rfl, SqL.of hH, rfl, po.at g (q y h3 h4) (by simp only [Rep])⟩ hp
  · rename_i ns i
    simp only [RepH, Rep] at h1
    obtain ⟨c, rfl, h1⟩ := h1
    dsimp only at q
    cases e : L2.atI ns i with
    | none => rw [e] at q; exact q.elim
    | some n =>
      rw [e] at q
      have e2 : L2.atI (ns.map V.int) i = some (.int n) := by rw [atI_map, e]; rfl
      exact ix_list value slice pins s σ H _ _ v u Q I rx ry ⟨c, _, i, _, rfl, rfl, g.fz.seq h1, e2, po.at g q (by simp only [Rep])⟩ hp
theorem de_ix (ha : DE M X a fa) (hb : DE M X b fb) (hs : PlainIx b := by intro _ _; rfl) : DE M X (.Subscript a b pos) (fOp rIxD fa fb) := peMono (pe_ix id_ix ha hb hs) fOp_lift
/-! ### slices -/
abbrev FO := DEnv → Ow → (Option Int → Ow → Prop) → Prop
def liftO (M : MX) (K : PySem.W.Frag) (f : FO) : TO := fun σ H Q => ∃ F O P ρ R, Gd M K F O P H ∧ EnvOk K F ρ σ ∧ f ρ O R ∧ ∀ o O' F' H', R o O' → Same F F' → Gd M K F' O' P H' → Q o H'
abbrev DO (M : MX) (X : Cx) (e : Option Expr) (f : FO) : Prop := PO X e (liftO M X.K f)
theorem poMono {X : Cx} {e : Option Expr} {t t' : TO} (h : PO X e t) (imp : ∀ σ H Q, t' σ H Q → t σ H Q) : PO X e t' := ⟨fun pins s σ H Q I q => h.run pins s σ H Q I (imp σ H Q q)⟩
def fNoPart : FO := fun _ O Q => Q none O
def asI (d : D) (O : Ow) (Q : Option Int → Ow → Prop) : Prop := match d with
  | .int i => Q (some i) O
  | _ => False
theorem asI_i {i : Int} {O : Ow} {Q : Option Int → Ow → Prop} : asI (.int i) O Q = Q (some i) O := rfl
def fPart (f : FE) : FO := fun ρ O Q => f ρ O fun d O1 => asI d O1 Q
theorem do_none : DO M X none fNoPart := poMono po_none fun σ H Q h => by
  obtain ⟨F, O, P, ρ, R, g, en, q, po⟩ := h
  exact po none O F H q (Same.refl _) g
theorem do_some (h : DE M X e fa) : DO M X (some e) (fPart fa) := poMono (po_some h) fun σ H Q h => by
  obtain ⟨F, O, P, ρ, R, g, en, q, po⟩ := h
  refine ⟨F, O, P, ρ, _, g, en, q, fun d O' F' H' v q1 s1 g1 r1 => ?_⟩
  unfold asI at q1
  cases d <;> first | exact q1.elim | skip
  simp only [Rep] at r1
  exact ⟨_, r1, po _ O' F' H' q1 s1 g1⟩
def cut {α : Type} (xs : List α) (lo hi : Option Int) : List α := (xs.drop (HT.sIx xs.length 0 lo)).take (HT.sIx xs.length xs.length hi - HT.sIx xs.length 0 lo)
theorem RepAll.cut {K : PySem.W.Frag} {F : Hp} {ds : List D} {vs : List V} (r : RepAll K F ds vs) (lo hi : Option Int) : RepAll K F (Kf.cut ds lo hi) (cutV vs lo hi) := by
  unfold Kf.cut cutV
  rw [r.length]
  exact (r.drop _).take _
abbrev R3D := D → Option Int → Option Int → Ow → VD → Prop
def rSlD : R3D := fun x lo hi O Q => match deref O x with
  | .lst ds => Q (.lst (cut ds lo hi)) O
  | .tup ds => ¬ (HT.sIx ds.length 0 lo = 0 ∧ HT.sIx ds.length ds.length hi = ds.length) ∧ Q (.tup (cut ds lo hi)) O
  | .str z => z.length ≤ sizeLine ∧ Q (.str (cutS z lo hi)) O
  | _ => False
def liftR3 (M : MX) (K : PySem.W.Frag) (r : R3D) : V → Option Int → Option Int → Hp → VK → Prop := fun x lo hi H Q => ∃ F O P dx R, Gd M K F O P H ∧ Rep K F dx x ∧ r dx lo hi O R ∧ PostE M K F P R Q
theorem sd_sl : SlR X (liftR3 M X.K rSlD) := by
  intro pins s σ H x v vl vu lo hi sl Q I rx hs pl pu q
  obtain ⟨F, O, P, dx, R, g, r1, q, po⟩ := q
  have h1 := g.deref r1
  unfold rSlD at q
  revert q h1
  generalize Kf.deref O dx = ex
  intro q h1
  cases ex <;> first | exact q.elim | skip
  · simp only [RepH, Rep] at h1
    exact sl_str pins s σ H x v vl vu lo hi sl Q I rx hs pl pu ⟨_, h1, q.1, po.at g q.2 (by simp only [Rep])⟩
  · simp only [RepH, Rep] at h1
    obtain ⟨c, xs, rfl, h1, h2⟩ := h1
    refine sl_tup pins s σ H _ v vl vu lo hi sl Q I rx hs pl pu ⟨c, xs, rfl, Same.seqT g.fz h1, by rw [← h2.length]; exact q.1, fun p hp => po.tup g q.2 (h2.cut lo hi) hp⟩
  · obtain ⟨c, xs, rfl, h1, h2⟩ := h1
    exact sl_list pins s σ H _ v vl vu lo hi sl Q I rx hs pl pu ⟨c, xs, rfl, SqL.of h1, fun p hp => po.lst g q (h2.cut lo hi) hp⟩
def fSl (r : R3D) (fe : FE) (fl fh : FO) : FE := fun ρ O Q => fe ρ O fun x O1 => fl ρ O1 fun l O2 => fh ρ O2 fun u O3 => r x l u O3 Q
theorem de_sliceR {r : R3D} {lo hi : Option Expr} {fl fh : FO} (hr : SlR X (liftR3 M X.K r)) (he : DE M X e fa) (hl : DO M X lo fl) (hu : DO M X hi fh) : DE M X (.Subscript e (.Slice lo hi none p2) pos) (fSl r fa fl fh) := by
  refine peMono (pe_slice hr he hl hu) fun σ H Q h => ?_
  obtain ⟨F, O, P, ρ, R, g, en, q, po⟩ := h
  refine ⟨F, O, P, ρ, _, g, en, q, fun x O1 F1 H1 v q1 s1 g1 r1 => ?_⟩
  refine ⟨F1, O1, P, ρ, _, g1, en.mono s1, q1, fun l O2 F2 H2 q2 s2 g2 => ?_⟩
  refine ⟨F2, O2, P, ρ, _, g2, en.mono (s1.trans s2), q2, fun u O3 F3 H3 q3 s3 g3 => ?_⟩
  exact ⟨F3, O3, P, x, R, g3, r1.mono (s2.trans s3), q3, po.more (s1.trans (s2.trans s3))⟩
theorem de_slice {lo hi : Option Expr} {fl fh : FO} (he : DE M X e fa) (hl : DO M X lo fl) (hu : DO M X hi fh) : DE M X (.Subscript e (.Slice lo hi none p2) pos) (fSl rSlD fa fl fh) := de_sliceR sd_sl he hl hu
/-! ### -a -/
def rNeg : R1D := fun x O Q => match x with
  | .int i => Q (.int (-i)) O
  | _ => False
def fUn (r : R1D) (f : FE) : FE := fun ρ O Q => f ρ O fun x O1 => r x O1 Q
theorem de_neg (ha : DE M X a fa) : DE M X (.UnaryOp .USub a pos) (fUn rNeg fa) := by
  refine peMono (pe_un un_neg ha) fun σ H Q h => ?_
  obtain ⟨F, O, P, ρ, R, g, en, q, po⟩ := h
  refine ⟨F, O, P, ρ, _, g, en, q, fun x O1 F1 H1 v q1 s1 g1 r1 => ?_⟩
  cases x <;> first | exact q1.elim | skip
  simp only [Rep] at r1
  exact ⟨_, r1, (po.more s1).at g1 q1 (by simp only [Rep])⟩
/-! ### calls of built-ins -/
abbrev RAD := List D → Ow → VD → Prop
abbrev CallD (M : MX) (X : Cx) (f : Value) (r : RAD) : Prop := CallR X f (liftRA M X.K r)
def fCB (r : RAD) (fr : FA) : FE := fun ρ O Q => fr ρ O fun ds O1 => r ds O1 Q
theorem fCB_lift {r : RAD} : ∀ σ H Q, liftE M X.K (fCB r fr) σ H Q → tCB (liftRA M X.K r) (liftA M X.K fr) σ H Q := by
  intro σ H Q h
  obtain ⟨F, O, P, ρ, R, g, en, q, po⟩ := h
  refine ⟨F, O, P, ρ, _, g, en, q, fun ds O1 F1 H1 vs q1 s1 g1 r1 => ?_⟩
  exact ⟨F1, O1, P, ds, R, g1, r1, q1, po.more s1⟩
theorem de_callB {id : String} {r : RAD} {x : Str} {p : Pos} (hc : CallD M X (.builtin id) r) (hg : Gl X x) (hm : X.mg x = none) (hv : bootBuiltins x = some (.builtin id)) (ha : DA M X (e :: es) fr) (hn : x ≠ "__name__" := by decide) (hdb : (x == ("__debug__" : Str)) = false := by decide)
    (he : starEach (e :: es) X.env = (false, eval e X.env) :: starEach es X.env := by rfl) (hpl : (backTo pos (starEach es X.env)).any (·.1) = false := by rfl) : DE M X (.Call (.Name x p) (e :: es) [] pos) (fCB r fr) :=
  peMono (pe_callB hc hg hm hv ha hn hdb he hpl) fCB_lift
theorem de_callTy {T : String} {r : RAD} {x : Str} {p : Pos} (hc : CallD M X (.type T) r) (hg : Gl X x) (hm : X.mg x = none) (hv : bootBuiltins x = some (.type T)) (ha : DA M X (e :: es) fr) (hn : x ≠ "__name__" := by decide) (hdb : (x == ("__debug__" : Str)) = false := by decide)
    (he : starEach (e :: es) X.env = (false, eval e X.env) :: starEach es X.env := by rfl) (hpl : (backTo pos (starEach es X.env)).any (·.1) = false := by rfl) : DE M X (.Call (.Name x p) (e :: es) [] pos) (fCB r fr) :=
  peMono (pe_callTy hc hg hm hv ha hn hdb he hpl) fCB_lift
theorem callD_of {f : Value} {r : RAD}
    (h : ∀ (F P H : Hp) (O : Ow) (xs : List V) (ds : List D) (R : VD) (Q : VK), Gd M X.K F O P H → RepAll X.K F ds xs → r ds O R → PostE M X.K F P R Q → ∃ r0, CallR X f r0 ∧ r0 xs H Q) : CallD M X f r := by
  intro pins s σ H xs us Q I rx q
  obtain ⟨F, O, P, ds, R, g, r1, q, po⟩ := q
  obtain ⟨r0, o, z⟩ := h F P H O xs ds R Q g r1 q po
  exact o pins s σ H xs us Q I rx z
/-- len -/
def rLenD : RAD := fun ds O Q => match ds with
  | [x] => match deref O x with
    | .lst ds => Q (.int ds.length) O
    | .tup ds => Q (.int ds.length) O
    | .str z => z.length ≤ sizeLine ∧ Q (.int z.length) O
    | .scr ns => Q (.int ns.length) O
    | _ => False
  | _ => False
theorem RepAll.one' {K : PySem.W.Frag} {F : Hp} {d : D} {vs : List V} (h : RepAll K F [d] vs) : ∃ v, vs = [v] ∧ Rep K F d v := by
  simp only [RepAll] at h
  obtain ⟨v, r, rfl, h1, rfl⟩ := h
  exact ⟨v, rfl, h1⟩
theorem RepAll.two' {K : PySem.W.Frag} {F : Hp} {d e : D} {vs : List V} (h : RepAll K F [d, e] vs) : ∃ v w, vs = [v, w] ∧ Rep K F d v ∧ Rep K F e w := by
  simp only [RepAll] at h
  obtain ⟨v, r, rfl, h1, w, r2, rfl, h2, rfl⟩ := h
  exact ⟨v, w, rfl, h1, h2⟩
theorem cd_len : CallD M X (.builtin "len") rLenD := by
  refine callD_of fun F P H O xs ds R Q g r1 q po => ?_
  match ds, q with
  | [x], q =>
    obtain ⟨v, rfl, r1'⟩ := r1.one'
    have h1 := g.deref r1'
    unfold rLenD at q
    dsimp only at q
    revert q h1
    generalize Kf.deref O x = ex
    intro q h1
    cases ex <;> first | exact q.elim | skip
    · simp only [RepH, Rep] at h1
      exact ⟨_, call_len_str, _, by rw [h1], q.1, po.at g q.2 (by simp only [Rep])⟩
    · simp only [RepH, Rep] at h1
      obtain ⟨c, xs, rfl, h1, h2⟩ := h1
      exact ⟨_, call_len_seq, c, xs, rfl, .inr (Same.seqT g.fz h1), po.at g q (by simp only [Rep]; rw [h2.length])⟩
    · obtain ⟨c, xs, rfl, h1, h2⟩ := h1
      exact ⟨_, call_len_seq, c, xs, rfl, .inl (SqL.of h1), po.at g q (by simp only [Rep]; rw [h2.length])⟩
    · simp only [RepH, Rep] at h1
      obtain ⟨c, rfl, h1⟩ := h1
      exact ⟨_, call_len_seq, c, _, rfl, .inl (g.fz.seq h1), po.at g q (by simp only [Rep]; rw [List.length_map])⟩
/-- max, min of two ints -/
def rMax2 : RAD := fun ds O Q => match ds with
  | [.int i, .int j] => Q (.int (if j > i then j else i)) O
  | _ => False
def rMin2 : RAD := fun ds O Q => match ds with
  | [.int i, .int j] => Q (.int (if j < i then j else i)) O
  | _ => False
theorem cd_max2 (hc : X.calm = true) : CallD M X (.builtin "max") rMax2 := by
  refine callD_of fun F P H O xs ds R Q g r1 q po => ?_
  unfold rMax2 at q
  split at q
  · obtain ⟨v, w, rfl, h1, h2⟩ := r1.two'
    simp only [Rep] at h1 h2
    exact ⟨_, call_max2 hc, _, _, by rw [h1, h2], po.at g q (by simp only [Rep])⟩
  · exact q.elim
theorem cd_min2 (hc : X.calm = true) : CallD M X (.builtin "min") rMin2 := by
  refine callD_of fun F P H O xs ds R Q g r1 q po => ?_
  unfold rMin2 at q
  split at q
  · obtain ⟨v, w, rfl, h1, h2⟩ := r1.two'
    simp only [Rep] at h1 h2
    exact ⟨_, call_min2 hc, _, _, by rw [h1, h2], po.at g q (by simp only [Rep])⟩
  · exact q.elim
/-- int(i), int(b); str(i) -/
def rInt1 : RAD := fun ds O Q => match ds with
  | [.int i] => Q (.int i) O
  | [.bl k] => Q (.int (if k then 1 else 0)) O
  | _ => False
theorem cd_int1 : CallD M X (.type "int") rInt1 := by
  refine callD_of fun F P H O xs ds R Q g r1 q po => ?_
  unfold rInt1 at q
  split at q
  · obtain ⟨v, rfl, h1⟩ := r1.one'
    simp only [Rep] at h1
    exact ⟨_, call_int1, .inl ⟨_, by rw [h1], po.at g q (by simp only [Rep])⟩⟩
  · obtain ⟨v, rfl, h1⟩ := r1.one'
    simp only [Rep] at h1
    exact ⟨_, call_int1, .inr ⟨_, by rw [h1], po.at g q (by simp only [Rep])⟩⟩
  · exact q.elim
def rStr1 : RAD := fun ds O Q => match ds with
  | [.int i] => i.natAbs.log2 < 1920 ∧ Q (.str (toString i)) O
  | _ => False
theorem cd_str1 : CallD M X (.type "str") rStr1 := by
  refine callD_of fun F P H O xs ds R Q g r1 q po => ?_
  unfold rStr1 at q
  split at q
  · obtain ⟨v, rfl, h1⟩ := r1.one'
    simp only [Rep] at h1
    exact ⟨_, call_str_int, _, by rw [h1], q.1, po.at g q.2 (by simp only [Rep])⟩
  · exact q.elim
/-- list(x): a new list; tuple(x) -/
def rList1 : RAD := fun ds O Q => match ds with
  | [x] => match deref O x with
    | .lst ds => Q (.lst ds) O
    | .tup ds => Q (.lst ds) O
    | _ => False
  | _ => False
def rList1O : RAD := fun ds O Q => match ds with
  | [x] => match deref O x with
    | .lst ds => ∀ p, O p = none → Q (.ref p) (updO O p (.lst ds))
    | .tup ds => ∀ p, O p = none → Q (.ref p) (updO O p (.lst ds))
    | _ => False
  | _ => False
def rTup1 : RAD := fun ds O Q => match ds with
  | [x] => match deref O x with
    | .lst ds => Q (.tup ds) O
    | .tup ds => Q (.tup ds) O
    | _ => False
  | _ => False
theorem cd_list1 : CallD M X (.type "list") rList1 := by
  refine callD_of fun F P H O xs ds R Q g r1 q po => ?_
  match ds, q with
  | [x], q =>
    obtain ⟨v, rfl, r1'⟩ := r1.one'
    have h1 := g.deref r1'
    unfold rList1 at q
    dsimp only at q
    revert q h1
    generalize Kf.deref O x = ex
    intro q h1
    cases ex <;> first | exact q.elim | skip
    · simp only [RepH, Rep] at h1
      obtain ⟨c, xs, rfl, h1, h2⟩ := h1
      exact ⟨_, call_list_of, c, xs, rfl, .inr (Same.seqT g.fz h1), fun p hp => po.lst g q h2 hp⟩
    · obtain ⟨c, xs, rfl, h1, h2⟩ := h1
      exact ⟨_, call_list_of, c, xs, rfl, .inl (SqL.of h1), fun p hp => po.lst g q h2 hp⟩
theorem cd_list1O : CallD M X (.type "list") rList1O := by
  refine callD_of fun F P H O xs ds R Q g r1 q po => ?_
  match ds, q with
  | [x], q =>
    obtain ⟨v, rfl, r1'⟩ := r1.one'
    have h1 := g.deref r1'
    unfold rList1O at q
    dsimp only at q
    revert q h1
    generalize Kf.deref O x = ex
    intro q h1
    cases ex <;> first | exact q.elim | skip
    · simp only [RepH, Rep] at h1
      obtain ⟨c, xs, rfl, h1, h2⟩ := h1
      exact ⟨_, call_list_of, c, xs, rfl, .inr (Same.seqT g.fz h1), fun p hp => po.lstO g q h2 hp⟩
    · obtain ⟨c, xs, rfl, h1, h2⟩ := h1
      exact ⟨_, call_list_of, c, xs, rfl, .inl (SqL.of h1), fun p hp => po.lstO g q h2 hp⟩
theorem cd_tup1 : CallD M X (.type "tuple") rTup1 := by
  refine callD_of fun F P H O xs ds R Q g r1 q po => ?_
  match ds, q with
  | [x], q =>
    obtain ⟨v, rfl, r1'⟩ := r1.one'
    have h1 := g.deref r1'
    unfold rTup1 at q
    dsimp only at q
    revert q h1
    generalize Kf.deref O x = ex
    intro q h1
    cases ex <;> first | exact q.elim | skip
    · have h0 := h1
      simp only [RepH, Rep] at h1
      obtain ⟨c, xs, rfl, h1, h2⟩ := h1
      exact ⟨_, call_tuple_of, c, xs, rfl, .inr ⟨Same.seqT g.fz h1, po.at g q h0⟩⟩
    · obtain ⟨c, xs, rfl, h1, h2⟩ := h1
      exact ⟨_, call_tuple_of, c, xs, rfl, .inl ⟨SqL.of h1, fun p hp => po.tup g q h2 hp⟩⟩
/-- sum of a list of ints -/
def asInts : List D → Option (List Int)
  | [] => some []
  | .int i :: ds => (asInts ds).map (i :: ·)
  | _ :: _ => none
theorem asInts_map (ns : List Int) : asInts (ns.map D.int) = some ns := by
  induction ns with
  | nil => rfl
  | cons n ns ih => rw [List.map_cons, asInts, ih]; rfl
theorem of_asInts : ∀ {ds : List D} {ns : List Int}, asInts ds = some ns → ds = ns.map D.int
  | [], ns, h => by cases h; rfl
  | d :: ds, ns, h => by
    cases d <;> simp only [asInts] at h <;> first | cases h | skip
    obtain ⟨m, h1, rfl⟩ := Option.map_eq_some_iff.mp h
    rw [of_asInts h1]; rfl
def rSumD : RAD := fun ds O Q => match ds with
  | [x] => match deref O x with
    | .lst ds => match asInts ds with
      | some ns => Q (.int ns.sum) O
      | none => False
    | _ => False
  | _ => False
theorem cd_sum (hc : X.calm = true) : CallD M X (.builtin "sum") rSumD := by
  refine callD_of fun F P H O xs ds R Q g r1 q po => ?_
  match ds, q with
  | [x], q =>
    obtain ⟨v, rfl, r1'⟩ := r1.one'
    have h1 := g.deref r1'
    unfold rSumD at q
    dsimp only at q
    revert q h1
    generalize Kf.deref O x = ex
    intro q h1
    cases ex <;> first | exact q.elim | skip
    rename_i ds
    obtain ⟨c, xs, rfl, h1, h2⟩ := h1
    dsimp only at q
    cases e : asInts ds with
    | none => rw [e] at q; exact q.elim
    | some ns =>
      rw [e] at q
      rw [of_asInts e] at h2
      have e3 := h2.ints
      subst e3
      exact ⟨_, cr_sum hc, c, ns, rfl, SqL.of h1, po.at g q (by simp only [Rep])⟩
/-- divmod: a new tuple -/
def rDivmod : RAD := fun ds O Q => match ds with
  | [.int i, .int j] => CDv i j ∧ Q (.tup [.int (i / j), .int (i % j)]) O
  | _ => False
/-! ### isinstance -/
def tyNm (O : Ow) : D → String
  | .non => "NoneType"
  | .bl _ => "bool"
  | .int _ => "int"
  | .str _ => "str"
  | .tup _ => "tuple"
  | .lst _ => "list"
  | .edic => "dict"
  | .ref a => match O a with
    | some (.lst _) => "list"
    | some .pool => "list"
    | some (.dic _) => "dict"
    | _ => ""
  | _ => ""
def insOf (t n : String) : Bool := t == n || (t == "bool" && n == "int")
def insTy : List String := ["NoneType", "bool", "int", "str", "tuple", "list", "dict"]
def insCl : List String := ["bool", "int", "str", "tuple", "list", "dict"]
def rIsiD : RAD := fun ds O Q => match ds with
  | [x, .ty n] => insCl.contains n = true ∧ insTy.contains (tyNm O x) = true ∧ Q (.bl (insOf (tyNm O x) n)) O
  | _ => False
/-! ### methods of built-in types -/
abbrev RMD := D → List D → Ow → VD → Prop
def liftRM (M : MX) (K : PySem.W.Frag) (r : RMD) : V → List V → Hp → VK → Prop := fun x xs H Q => ∃ F O P dx ds R, Gd M K F O P H ∧ Rep K F dx x ∧ RepAll K F ds xs ∧ r dx ds O R ∧ PostE M K F P R Q
abbrev MtD (M : MX) (X : Cx) (id : String) (r : RMD) : Prop := MtR X id (liftRM M X.K r)
def tyOk (T : String) (O : Ow) (d : D) : Bool := T == "list" && tyNm O d == "list" || T == "str" && tyNm O d == "str"
theorem tyV_of {K : PySem.W.Frag} {F P H : Hp} {O : Ow} {d : D} {v : V} {T : String} (g : Gd M K F O P H) (r : Rep K F d v) (h : tyOk T O d = true) : tyV K T v H := by
  unfold tyOk at h
  rw [Bool.or_eq_true, Bool.and_eq_true, Bool.and_eq_true] at h
  rcases h with ⟨h1, h2⟩ | ⟨h1, h2⟩
  · have e1 : T = "list" := by simpa using h1
    have e2 : tyNm O d = "list" := by simpa using h2
    subst e1
    cases d <;> first | (simp [tyNm] at e2; done) | skip
    · simp only [Rep] at r
      obtain ⟨a, xs, rfl, q, _⟩ := r
      exact Or.inl ⟨rfl, xs, SqL.of (g.fz _ _ q)⟩
    · rename_i a
      simp only [Rep] at r
      subst r
      cases e : O a with
      | none => simp [tyNm, e] at e2
      | some c =>
        have q := (g.ow a c e).2.2
        cases c with
        | lst ds => obtain ⟨vs, q, _⟩ := q; exact Or.inl ⟨rfl, vs, SqL.of q⟩
        | pool => obtain ⟨x, y, q, _⟩ := q; exact Or.inl ⟨rfl, _, SqL.of q⟩
        | dic _ => simp [tyNm, e] at e2
        | dicL _ _ => simp [tyNm, e] at e2
        | exc _ _ => simp [tyNm, e] at e2
        | ins _ _ => simp [tyNm, e] at e2
        | dicT _ => simp [tyNm, e] at e2
  · have e1 : T = "str" := by simpa using h1
    have e2 : tyNm O d = "str" := by simpa using h2
    subst e1
    cases d <;> first | (simp [tyNm] at e2; done) | skip
    · simp only [Rep] at r; subst r; rfl
    · rename_i a
      cases e : O a with
      | none => simp [tyNm, e] at e2
      | some c => cases c <;> simp [tyNm, e] at e2
def fBM (T : String) (r : RMD) (fo : FE) (fr : FA) : FE := fun ρ O Q => fo ρ O fun x O1 => tyOk T O1 x = true ∧ fr ρ O1 fun ds O2 => r x ds O2 Q
def fBM0 (T : String) (r : RMD) (fo : FE) : FE := fun ρ O Q => fo ρ O fun x O1 => tyOk T O1 x = true ∧ r x [] O1 Q
variable {o : Expr} {fo : FE} {name : Str} {apos cpos : Pos} {T id : String} {r : RMD}
theorem de_bm (pa : PlainAttrs T) (slot : Slot T name id) (hty : typeOf (.builtin id) = pure (.type "method_descriptor")) (hm : MtD M X id r) (ho : DE M X o fo) (ha : DA M X (e :: es) fr)
    (hbase : attributeBase o name X.env (eval o X.env) = eval o X.env := by rfl)
    (hfew : ((backTo cpos (starEach (e :: es) X.env)).all (fun x => !x.1) && (backToKw cpos (keywordEach [] X.env)).all (fun x => x.1.isSome)
      && decide ((e :: es).length + ([] : List Keyword).length + (if ([] : List Keyword).isEmpty then 0 else 1) < 30)) = true := by rfl)
    (hline : (apos.endLine == cpos.line) = true := by rfl) (hs : starEach (e :: es) X.env = (false, eval e X.env) :: starEach es X.env := by rfl) (hplain : (backTo cpos (starEach es X.env)).any (·.1) = false := by rfl) :
    DE M X (.Call (.Attribute o name apos) (e :: es) [] cpos) (fBM T r fo fr) := by
  refine peMono (pe_bm pa slot hty hm ho ha hbase hfew hline hs hplain) fun σ H Q h => ?_
  obtain ⟨F, O, P, ρ, R, g, en, q, po⟩ := h
  refine ⟨F, O, P, ρ, _, g, en, q, fun x O1 F1 H1 v q1 s1 g1 r1 => ⟨tyV_of g1 r1 q1.1, ?_⟩⟩
  refine ⟨F1, O1, P, ρ, _, g1, en.mono s1, q1.2, fun ds O2 F2 H2 vs q2 s2 g2 r2 => ?_⟩
  exact ⟨F2, O2, P, x, ds, R, g2, r1.mono s2, r2, q2, po.more (s1.trans s2)⟩
theorem mtD_of {id : String} {r : RMD}
    (h : ∀ (F P H : Hp) (O : Ow) (x : V) (xs : List V) (dx : D) (ds : List D) (R : VD) (Q : VK), Gd M X.K F O P H → Rep X.K F dx x → RepAll X.K F ds xs → r dx ds O R → PostE M X.K F P R Q → ∃ r0, MtR X id r0 ∧ r0 x xs H Q) : MtD M X id r := by
  intro pins s σ H x xs v us Q I rx rxs q
  obtain ⟨F, O, P, dx, ds, R, g, r1, r2, q, po⟩ := q
  obtain ⟨r0, o, z⟩ := h F P H O x xs dx ds R Q g r1 r2 q po
  exact o pins s σ H x xs v us Q I rx rxs z
/-- xs.append(y), an owned list -/
def rAppendD : RMD := fun x ds O Q => match x, ds with
  | .ref a, [y] => match O a with
    | some (.lst xs) => xs.length < sizeLine ∧ Q .non (updO O a (.lst (xs ++ [y])))
    | _ => False
  | _, _ => False
theorem md_append : MtD M X "list.append" rAppendD := by
  refine mtD_of fun F P H O x xs dx ds R Q g r1 r2 q po => ?_
  unfold rAppendD at q
  split at q
  · rename_i a y
    obtain ⟨v, rfl, r2'⟩ := r2.one'
    simp only [Rep] at r1
    subst r1
    cases e : O a with
    | none => rw [e] at q; exact q.elim
    | some c =>
      rw [e] at q
      cases c with
      | pool => exact q.elim
      | dic _ => exact q.elim
      | dicL _ _ => exact q.elim
      | exc _ _ => exact q.elim
      | ins _ _ => exact q.elim
      | dicT _ => exact q.elim
      | lst zs =>
        obtain ⟨_, _, vs, h1, h2⟩ := g.ow a _ e
        refine ⟨_, mt_append, a, vs, v, rfl, rfl, h1, by rw [← h2.length]; exact q.1, ?_⟩
        exact po .non _ F _ _ q.2 (Same.refl _) (g.setO e ⟨_, upd_same, h2.append (.one r2')⟩) (by simp only [Rep])
  · exact q.elim
/-- sep.join(xs) -/
def asStrs : List D → Option (List Str)
  | [] => some []
  | .str i :: ds => (asStrs ds).map (i :: ·)
  | _ :: _ => none
theorem asStrs_map (ns : List Str) : asStrs (ns.map D.str) = some ns := by
  induction ns with
  | nil => rfl
  | cons n ns ih => rw [List.map_cons, asStrs, ih]; rfl
end
end Kf
namespace Kf
open PySem PySem.Spec L2
open PyProof.Rows hiding St
variable {M : MX}

/-! ### statements -/
structure DEnds where
  nx : DEnv → Ow → Prop
  rt : VD
  bk : DEnv → Ow → Prop := fun _ _ => False
  ct : DEnv → Ow → Prop := fun _ _ => False
abbrev GS := DEnds → DEnv → Ow → Prop
def PostN (M : MX) (K : PySem.W.Frag) (F P : Hp) (R : DEnv → Ow → Prop) (Q : L2.St → Hp → Prop) : Prop := ∀ ρ O' F' H' σ, R ρ O' → Same F F' → Gd M K F' O' P H' → EnvOk K F' ρ σ → Q σ H'
structure PostS (M : MX) (K : PySem.W.Frag) (F P : Hp) (R : DEnds) (D : Ends) : Prop where
  nx : PostN M K F P R.nx D.nx
  rt : PostE M K F P R.rt D.rt
  bk : PostN M K F P R.bk D.bk
  ct : PostN M K F P R.ct D.ct
theorem PostN.more {K : PySem.W.Frag} {F F' P : Hp} {R : DEnv → Ow → Prop} {Q : L2.St → Hp → Prop} (po : PostN M K F P R Q) (s : Same F F') : PostN M K F' P R Q := fun ρ O' F2 H' σ q s2 g en => po ρ O' F2 H' σ q (s.trans s2) g en
theorem PostS.more {K : PySem.W.Frag} {F F' P : Hp} {R : DEnds} {D : Ends} (po : PostS M K F P R D) (s : Same F F') : PostS M K F' P R D := ⟨po.nx.more s, po.rt.more s, po.bk.more s, po.ct.more s⟩
def liftS (M : MX) (K : PySem.W.Frag) (g : GS) : TS := fun D σ H => ∃ F O P ρ R, Gd M K F O P H ∧ EnvOk K F ρ σ ∧ g R ρ O ∧ PostS M K F P R D
abbrev DS (M : MX) (X : Cx) (st : Stmt) (g : GS) : Prop := PS X st (liftS M X.K g)
abbrev DSs (M : MX) (X : Cx) (st : List Stmt) (g : GS) : Prop := PSs X st (liftS M X.K g)

section
variable {X : Cx} {st : Stmt} {rest : List Stmt} {g u : GS} {e c : Expr} {fe : FE} {ft : FT} {pos : Pos}
def gNext : GS := fun R ρ O => R.nx ρ O
def gSeq (g u : GS) : GS := fun R ρ O => g { R with nx := u R } ρ O
theorem dss_nil : DSs M X [] gNext := pssMono pss_nil fun D σ H h => by
  obtain ⟨F, O, P, ρ, R, g, en, q, po⟩ := h
  exact po.nx ρ O F H σ q (Same.refl _) g en
theorem dss_cons (h1 : DS M X st g) (h2 : DSs M X rest u) : DSs M X (st :: rest) (gSeq g u) := pssMono (pss_cons h1 h2) fun D σ H h => by
  obtain ⟨F, O, P, ρ, R, g, en, q, po⟩ := h
  exact ⟨F, O, P, ρ, { R with nx := u R }, g, en, q, fun ρ' O' F' H' σ' q' s g' en' => ⟨F', O', P, ρ', R, g', en', q', po.more s⟩, po.rt, po.bk, po.ct⟩
theorem dss_one (h1 : DS M X st g) : DSs M X [st] g := pss_one h1
/-- what is never come to -/
def gNever : GS := fun _ _ _ => False
def gBreak : GS := fun R ρ O => R.bk ρ O
def gDrop (fe : FE) : GS := fun R ρ O => fe ρ O fun _ O1 => R.nx ρ O1
theorem ds_expr (he : DE M X e fe) (hs : swapsWith e none pos.line X.env = pure false := by rfl) : DS M X (.Expr e pos) (gDrop fe) := psMono (ps_expr he hs) fun D σ H h => by
  obtain ⟨F, O, P, ρ, R, g, en, q, po⟩ := h
  exact ⟨F, O, P, ρ, _, g, en, q, fun d O1 F1 H1 v q1 s1 g1 _ => po.nx ρ O1 F1 H1 σ q1 s1 g1 (en.mono s1)⟩
def gRet (fe : FE) : GS := fun R ρ O => fe ρ O R.rt
theorem ds_ret (he : DE M X e fe) : DS M X (.Return (some e) pos) (gRet fe) := psMono (ps_ret he) fun D σ H h => by
  obtain ⟨F, O, P, ρ, R, g, en, q, po⟩ := h
  exact ⟨F, O, P, ρ, R.rt, g, en, q, po.rt⟩
/-- an owned list is handed back: from now on it never changes -/
def gRetF (fe : FE) : GS := fun R ρ O => fe ρ O fun d O1 => match d with
  | .ref a => match O1 a with
    | some (.lst ds) => R.rt (.lst ds) (delO O1 a)
    | _ => False
  | _ => False
theorem ds_retF (he : DE M X e fe) : DS M X (.Return (some e) pos) (gRetF fe) := psMono (ps_ret he) fun D σ H h => by
  obtain ⟨F, O, P, ρ, R, g, en, q, po⟩ := h
  refine ⟨F, O, P, ρ, _, g, en, q, fun d O1 F1 H1 v q1 s1 g1 r1 => ?_⟩
  split at q1 <;> first | exact q1.elim | skip
  rename_i a
  split at q1 <;> first | exact q1.elim | skip
  rename_i ds e1
  simp only [Rep] at r1
  subst r1
  obtain ⟨F2, s2, g2, r2⟩ := g1.freeze e1
  exact po.rt (.lst ds) (delO O1 a) F2 H1 (.ref a) q1 (s1.trans s2) g2 r2
def gRetN : GS := fun R _ O => R.rt .non O
def gIf (c : FT) (g u : GS) : GS := fun R ρ O => c ρ O fun b O1 => if b = true then g R ρ O1 else u R ρ O1
theorem ds_if {a b : List Stmt} (hc : DT M X c ft) (ha : DSs M X a g) (hb : DSs M X b u) : DS M X (.If c a b pos) (gIf ft g u) := psMono (ps_if hc ha hb) fun D σ H h => by
  obtain ⟨F, O, P, ρ, R, g, en, q, po⟩ := h
  refine ⟨F, O, P, ρ, _, g, en, q, fun k O1 F1 H1 q1 s1 g1 => ?_⟩
  cases k with
  | true => rw [if_pos rfl] at q1 ⊢; exact ⟨F1, O1, P, ρ, R, g1, en.mono s1, q1, po.more s1⟩
  | false => rw [if_neg Bool.false_ne_true] at q1 ⊢; exact ⟨F1, O1, P, ρ, R, g1, en.mono s1, q1, po.more s1⟩
/-- an owned list in slot i never changes from now on -/
def gFrz (i : Nat) (g : GS) : GS := fun R ρ O => match ρ[i]? with
  | some (some (.ref a)) => match O a with
    | some (.lst ds) => g R (ρ.set i (some (.lst ds))) (delO O a)
    | _ => False
  | _ => False
theorem EnvOk.frz {K : PySem.W.Frag} {F F' : Hp} {ρ : DEnv} {σ : L2.St} {i : Nat} {a : Addr} {d : D} (h : EnvOk K F ρ σ) (s : Same F F') (e : ρ[i]? = some (some (.ref a))) (r : Rep K F' d (.ref a)) : EnvOk K F' (ρ.set i (some d)) σ := by
  obtain ⟨v, e1, r1⟩ := h.2 i _ e
  simp only [Rep] at r1
  subst r1
  refine ⟨by rw [List.length_set]; exact h.1, fun j d' q => ?_⟩
  by_cases c : i = j
  · subst c
    by_cases hl : i < ρ.length
    · rw [List.getElem?_set_self hl] at q
      cases q
      exact ⟨.ref a, e1, r⟩
    · rw [List.getElem?_eq_none (by rw [List.length_set]; omega)] at q; cases q
  · rw [List.getElem?_set_ne c] at q
    exact (h.mono s).2 j d' q
theorem liftS_frz {i : Nat} : ∀ D σ H, liftS M X.K (gFrz i g) D σ H → liftS M X.K g D σ H := fun D σ H h => by
  obtain ⟨F, O, P, ρ, R, gd, en, q, po⟩ := h
  unfold gFrz at q
  split at q
  · rename_i a e1
    split at q
    · rename_i ds e2
      obtain ⟨F2, s2, g2, r2⟩ := gd.freeze e2
      exact ⟨F2, delO O a, P, _, R, g2, en.frz s2 e1 r2, q, po.more s2⟩
    · exact q.elim
  · exact q.elim
theorem dss_frz (i : Nat) (h : DSs M X rest g) : DSs M X rest (gFrz i g) := pssMono h liftS_frz

/-! ### targets -/
inductive Pat where
  | nm (i : Nat)
  | tp (ps : List Pat)
mutual
def patT (K : PySem.W.Frag) : Pat → TG
  | .nm i => gName i
  | .tp ps => gTup K ps.length (patTs K ps)
def patTs (K : PySem.W.Frag) : List Pat → TGs
  | [] => gNil
  | p :: ps => gCons (patT K p) (patTs K ps)
end
mutual
def patD : Pat → D → DEnv → Option DEnv
  | .nm i, d, ρ => some (ρ.set i (some d))
  | .tp ps, .tup ds, ρ => patDs ps ds ρ
  | .tp _, _, _ => none
def patDs : List Pat → List D → DEnv → Option DEnv
  | [], [], ρ => some ρ
  | p :: ps, d :: ds, ρ => (patD p d ρ).bind (patDs ps ds)
  | _, _, _ => none
end
mutual
def patI : Pat → List Nat
  | .nm i => [i]
  | .tp ps => patIs ps
def patIs : List Pat → List Nat
  | [] => []
  | p :: ps => patI p ++ patIs ps
end
/-- the two states are alike but at some slots -/
def Off (vs : List Nat) (σ σ' : L2.St) : Prop := σ.length = σ'.length ∧ ∀ i, i ∉ vs → σ'[i]? = σ[i]?
theorem patDs_length : ∀ {ps : List Pat} {ds : List D} {ρ ρ' : DEnv}, patDs ps ds ρ = some ρ' → ps.length = ds.length
  | [], [], _, _, _ => rfl
  | [], _ :: _, _, _, h => by simp only [patDs] at h; cases h
  | _ :: _, [], _, _, h => by simp only [patDs] at h; cases h
  | p :: ps, d :: ds, ρ, ρ', h => by
    simp only [patDs] at h
    obtain ⟨ρ1, h1, h2⟩ := Option.bind_eq_some_iff.mp h
    rw [List.length_cons, List.length_cons, patDs_length h2]
mutual
theorem pat_ok {K : PySem.W.Frag} {F P H : Hp} {O : Ow} (gd : Gd M K F O P H) : ∀ (p : Pat) (d : D) (v : V) (ρ ρ' : DEnv) (σ : L2.St) (Q : L2.St → Hp → Prop), patD p d ρ = some ρ' → Rep K F d v → EnvOk K F ρ σ →
    (∀ σ', EnvOk K F ρ' σ' → Off (patI p) σ σ' → Q σ' H) → patT K p v σ H Q
  | .nm i, d, v, ρ, ρ', σ, Q, h, r, en, q => by
    simp only [patD] at h
    cases h
    simp only [patT]
    refine q _ (en.set r i) ⟨by rw [List.length_set], fun j hj => ?_⟩
    simp only [patI, List.mem_singleton] at hj
    rw [List.getElem?_set_ne (fun e => hj e.symm)]
  | .tp ps, d, v, ρ, ρ', σ, Q, h, r, en, q => by
    cases d <;> simp only [patD] at h <;> first | cases h | skip
    simp only [Rep] at r
    obtain ⟨a, xs, rfl, r1, r2⟩ := r
    simp only [patT]
    refine ⟨a, xs, rfl, Same.seqT gd.fz r1, ?_, ?_⟩
    · rw [← r2.length, patDs_length h]
    · exact pats_ok gd ps _ xs ρ ρ' σ Q h r2 en fun σ' en' off => q σ' en' (by simpa only [patI] using off)
theorem pats_ok {K : PySem.W.Frag} {F P H : Hp} {O : Ow} (gd : Gd M K F O P H) : ∀ (ps : List Pat) (ds : List D) (vs : List V) (ρ ρ' : DEnv) (σ : L2.St) (Q : L2.St → Hp → Prop), patDs ps ds ρ = some ρ' → RepAll K F ds vs → EnvOk K F ρ σ →
    (∀ σ', EnvOk K F ρ' σ' → Off (patIs ps) σ σ' → Q σ' H) → patTs K ps vs σ H Q
  | [], [], vs, ρ, ρ', σ, Q, h, r, en, q => by
    simp only [patDs] at h
    cases h
    simp only [RepAll] at r
    subst r
    simp only [patTs]
    exact ⟨rfl, q σ en ⟨rfl, fun _ _ => rfl⟩⟩
  | [], _ :: _, _, _, _, _, _, h, _, _, _ => by simp only [patDs] at h; cases h
  | _ :: _, [], _, _, _, _, _, h, _, _, _ => by simp only [patDs] at h; cases h
  | p :: ps, d :: ds, vs, ρ, ρ', σ, Q, h, r, en, q => by
    simp only [patDs] at h
    obtain ⟨ρ1, h1, h2⟩ := Option.bind_eq_some_iff.mp h
    simp only [RepAll] at r
    obtain ⟨v, ws, rfl, r1, r2⟩ := r
    simp only [patTs]
    refine ⟨v, ws, rfl, ?_⟩
    refine pat_ok gd p d v ρ ρ1 σ _ h1 r1 en fun σ1 en1 off1 => ?_
    refine pats_ok gd ps ds ws ρ1 ρ' σ1 Q h2 r2 en1 fun σ2 en2 off2 => q σ2 en2 ⟨off1.1.trans off2.1, fun i hi => ?_⟩
    simp only [patIs, List.mem_append, not_or] at hi
    rw [off2.2 i hi.2, off1.2 i hi.1]
end
abbrev DP (X : Cx) (tg : Expr) (p : Pat) : Prop := PG X tg (patT X.K p)
abbrev DPs (X : Cx) (tgs : List Expr) (ps : List Pat) : Prop := PGs X tgs (patTs X.K ps)
theorem dp_name {i : Nat} {x : Str} (hN : X.N.Nodup) (hi : X.N[i]? = some x) (hx : Loc X.env.scope x) (hf : X.fn x = true ∨ X.env.scope.names.lookup x = some .local := by first | exact .inl rfl | exact .inr rfl | assumption) : DP X (.Name x pos) (.nm i) := by
  show PG X _ (patT X.K (.nm i))
  rw [show patT X.K (.nm i) = gName i by simp only [patT]]
  exact pg_name hN hi hx hf
theorem dps_nil : DPs X [] [] := by
  show PGs X _ (patTs X.K [])
  rw [show patTs X.K [] = gNil by simp only [patTs]]
  exact pgs_nil
theorem dps_cons {e : Expr} {es : List Expr} {p : Pat} {ps : List Pat} (h1 : DP X e p) (h2 : DPs X es ps)
    (hs : (assignEach (e :: es) X.env).map (·.2) = assign e X.env :: (assignEach es X.env).map (·.2) := by rfl) : DPs X (e :: es) (p :: ps) := by
  show PGs X _ (patTs X.K (p :: ps))
  rw [show patTs X.K (p :: ps) = gCons (patT X.K p) (patTs X.K ps) by simp only [patTs]]
  exact pgs_cons h1 h2 hs
theorem dp_tup {es : List Expr} {k : Nat} {ps : List Pat} (hc : X.calm = true) (h : DPs X es ps)
    (hn : (assignEach es X.env).length = ps.length := by rfl) (hst : (assignEach es X.env).findIdx? (·.1) = none := by rfl) : DP X (.Tuple es k pos) (.tp ps) := by
  show PG X _ (patT X.K (.tp ps))
  rw [show patT X.K (.tp ps) = gTup X.K ps.length (patTs X.K ps) by simp only [patT]]
  exact pg_tup hc h hn hst
def patGet (o : Option DEnv) (N : DEnv → Prop) : Prop := match o with
  | some ρ => N ρ
  | none => False
theorem patGet_s {ρ : DEnv} {N : DEnv → Prop} : patGet (some ρ) N = N ρ := rfl
/-- target = value -/
def gAsg (fe : FE) (p : Pat) : GS := fun R ρ O => fe ρ O fun d O1 => patGet (patD p d ρ) fun ρ' => R.nx ρ' O1
theorem ds_asg {tg e : Expr} {p : Pat} (he : DE M X e fe) (hg : DP X tg p) (hs : swapsWithSole [tg] e pos.line X.env = pure false := by rfl) (hw : swappedStores [tg] e X.env = pure none := by rfl) (h1 : (assignEach [tg] X.env).map (·.2) = [assign tg X.env] := by rfl) : DS M X (.Assign [tg] e pos) (gAsg fe p) :=
  psMono (ps_asg he hg hs hw h1) fun D σ H h => by
    obtain ⟨F, O, P, ρ, R, g, en, q, po⟩ := h
    refine ⟨F, O, P, ρ, _, g, en, q, fun d O1 F1 H1 v q1 s1 g1 r1 => ?_⟩
    cases e1 : patD p d ρ with
    | none => rw [e1] at q1; exact q1.elim
    | some ρ' =>
      rw [e1] at q1
      exact pat_ok g1 p d v ρ ρ' σ _ e1 r1 (en.mono s1) fun σ' en' _ => po.nx ρ' O1 F1 H1 σ' q1 s1 g1 en'
/-- name = value -/
def gSet (fe : FE) (i : Nat) : GS := fun R ρ O => fe ρ O fun d O1 => R.nx (ρ.set i (some d)) O1
theorem gSet_lift {te : TE} {i : Nat} (hl : ∀ σ H Q, liftE M X.K fe σ H Q → te σ H Q) : ∀ D σ H, liftS M X.K (gSet fe i) D σ H → tAsg te (gName i) D σ H := fun D σ H h => by
  obtain ⟨F, O, P, ρ, R, g, en, q, po⟩ := h
  exact hl _ _ _ ⟨F, O, P, ρ, _, g, en, q, fun d O1 F1 H1 v q1 s1 g1 r1 => po.nx _ O1 F1 H1 _ q1 s1 g1 ((en.mono s1).set r1 i)⟩
theorem ds_set {i : Nat} {x : Str} {e : Expr} {pos' : Pos} (hN : X.N.Nodup) (hi : X.N[i]? = some x) (hx : Loc X.env.scope x) (he : DE M X e fe) (hs : swapsWith e (some (.Name x pos')) pos.line X.env = pure false := by rfl) (hf : X.fn x = true ∨ X.env.scope.names.lookup x = some .local := by first | exact .inl rfl | exact .inr rfl | assumption) :
    DS M X (.Assign [.Name x pos'] e pos) (gSet fe i) := psMono (ps_set hN hi hx he hs hf) (gSet_lift fun _ _ _ q => q)
/-- name op= e -/
def gAug (i : Nat) (fe : FE) (r : R2D) : GS := fun R ρ O => match ρ[i]? with
  | some (some x) => fe ρ O fun y O1 => r x y O1 fun z O2 => R.nx (ρ.set i (some z)) O2
  | _ => False
/-- o[i] = v, an owned list -/
def rSetD (x y d : D) (O : Ow) (N : Ow → Prop) : Prop := match x, y with
  | .ref a, .int k => match O a with
    | some (.lst ds) => match ixN ds.length k with
      | some j => N (updO O a (.lst (ds.set j d)))
      | none => False
    | some .pool => match d with
      | .int z => ((k = 0 ∧ 0 ≤ z) ∨ (k = 1 ∧ 0 ≤ z ∧ z < 2147483647)) ∧ N O
      | _ => False
    | _ => False
  | _, _ => False
def gSetIx (fo fi fe : FE) : GS := fun R ρ O => fe ρ O fun d O1 => fo ρ O1 fun x O2 => fi ρ O2 fun y O3 => rSetD x y d O3 (R.nx ρ)
theorem ds_setIx {o i e : Expr} {fo fi : FE} {p1 : Pos} (ho : DE M X o fo) (hi : DE M X i fi) (he : DE M X e fe)
    (ha : ∀ v, assign (.Subscript o i p1) X.env v = (do
      let ov ← holding [v] (eval o X.env)
      let iv ← holding [v, ov] (eval i X.env)
      standAt p1
      holding [v, ov, iv] (setItem ov iv v)
      release [v, ov, iv] []) := by intro _; rfl)
    (hs : swapsWithSole [.Subscript o i p1] e pos.line X.env = pure false := by rfl) (hw : swappedStores [.Subscript o i p1] e X.env = pure none := by rfl) : DS M X (.Assign [.Subscript o i p1] e pos) (gSetIx fo fi fe) :=
  psMono (ps_asg he (pg_sub ho hi set_list ha) hs hw) fun D σ H h => by
    obtain ⟨F, O, P, ρ, R, g, en, q, po⟩ := h
    refine ⟨F, O, P, ρ, _, g, en, q, fun d O1 F1 H1 v q1 s1 g1 r1 => ?_⟩
    refine ⟨F1, O1, P, ρ, _, g1, en.mono s1, q1, fun x O2 F2 H2 w q2 s2 g2 r2 => ?_⟩
    refine ⟨F2, O2, P, ρ, _, g2, en.mono (s1.trans s2), q2, fun y O3 F3 H3 z q3 s3 g3 r3 => ?_⟩
    unfold rSetD at q3
    cases x <;> first | exact q3.elim | skip
    cases y <;> first | exact q3.elim | skip
    rename_i a k
    simp only [Rep] at r2 r3
    subst r2 r3
    dsimp only at q3
    cases e1 : O3 a with
    | none => rw [e1] at q3; exact q3.elim
    | some c =>
      rw [e1] at q3
      cases c with
      | dic kvs => exact q3.elim
      | dicL _ _ => exact q3.elim
      | exc _ _ => exact q3.elim
      | ins _ _ => exact q3.elim
      | dicT _ => exact q3.elim
      | pool =>
        dsimp only at q3
        cases d <;> first | exact q3.elim | skip
        simp only [Rep] at r1
        subst r1
        obtain ⟨_, _, z, y, hH, h2, h3, h4⟩ := g3.ow a _ e1
        obtain ⟨q4, q5⟩ := q3
        have s4 := s1.trans (s2.trans s3)
        rcases q4 with ⟨rfl, h5⟩ | ⟨rfl, h5, h6⟩
        · refine ⟨a, _, 0, 0, rfl, rfl, hH, rfl, ?_⟩
          have g4 := g3.setO e1 (o := .lst [.int _, .int y]) (c := .pool) ⟨_, y, upd_same, h5, h3, h4⟩
          rw [updO_self e1] at g4
          exact po.nx ρ _ F3 _ σ q5 s4 g4 (en.mono s4)
        · refine ⟨a, _, 1, 1, rfl, rfl, hH, rfl, ?_⟩
          have g4 := g3.setO e1 (o := .lst [.int z, .int _]) (c := .pool) ⟨z, _, upd_same, h2, h5, h6⟩
          rw [updO_self e1] at g4
          exact po.nx ρ _ F3 _ σ q5 s4 g4 (en.mono s4)
      | lst ds =>
        dsimp only at q3
        cases e2 : ixN ds.length k with
        | none => rw [e2] at q3; exact q3.elim
        | some j =>
          rw [e2] at q3
          obtain ⟨_, _, vs, h1, h2⟩ := g3.ow a _ e1
          refine ⟨a, vs, k, j, rfl, rfl, h1, by rw [← h2.length]; exact e2, ?_⟩
          exact po.nx ρ _ F3 _ σ q3 (s1.trans (s2.trans s3)) (g3.setO e1 ⟨_, upd_same, h2.set (r1.mono (s2.trans s3)) j⟩) (en.mono (s1.trans (s2.trans s3)))

/-! ### what is walked -/
/-- the walk yields just these, whatever comes meanwhile -/
def ItOk (M : MX) (K : PySem.W.Frag) (F : Hp) (J : It) (ds : List D) : Prop := ∀ F' O' P' H', Same F F' → Gd M K F' O' P' H' → ∀ i : Nat,
  (∀ d, ds[i]? = some d → J.go i H' ∧ ∀ x H'', J.yld i H' x H'' → ∃ F'', Same F' F'' ∧ Gd M K F'' O' P' H'' ∧ Rep K F'' d x) ∧ (ds.length ≤ i → J.stop i H')
abbrev FI := DEnv → Ow → (List D → Ow → Prop) → Prop
def liftI (M : MX) (K : PySem.W.Frag) (f : FI) : TI := fun σ H Q => ∃ F O P ρ R, Gd M K F O P H ∧ EnvOk K F ρ σ ∧ f ρ O R ∧ ∀ ds O' F' H' J, R ds O' → Same F F' → Gd M K F' O' P H' → ItOk M K F' J ds → Q J H'
abbrev DI (M : MX) (X : Cx) (tg iter : Expr) (f : FI) : Prop := PI X tg iter (liftI M X.K f)
theorem piMono {X : Cx} {tg iter : Expr} {t t' : TI} (h : PI X tg iter t) (imp : ∀ σ H Q, t' σ H Q → t σ H Q) : PI X tg iter t' := ⟨fun pins s σ H Q I q => h.run pins s σ H Q I (imp σ H Q q)⟩
variable {tg iter l : Expr} {fl : FE} {fr : FA}
def asL (d : D) (O : Ow) (Q : List D → Ow → Prop) : Prop := match d with
  | .lst ds => Q ds O
  | _ => False
def asT (d : D) (O : Ow) (Q : List D → Ow → Prop) : Prop := match d with
  | .tup ds => Q ds O
  | _ => False
def asSg (d : D) (O : Ow) (Q : List D → Ow → Prop) : Prop := match d with
  | .str x => Q (x.cps.toList.map fun c => .str ⟨#[c]⟩) O
  | _ => False
def asR1 (ds : List D) (O : Ow) (Q : Int → Nat → Ow → Prop) : Prop := match ds with
  | [.int j] => -(2 ^ 62) ≤ j ∧ j < 2 ^ 62 ∧ Q 0 j.toNat O
  | _ => False
def asR2 (ds : List D) (O : Ow) (Q : Int → Nat → Ow → Prop) : Prop := match ds with
  | [.int i, .int j] => (-(2 ^ 62) ≤ i ∧ i < 2 ^ 62 ∧ -(2 ^ 62) ≤ j ∧ j < 2 ^ 62) ∧ Q i (j - i).toNat O
  | _ => False
def asL1 (ds : List D) (O : Ow) (Q : List D → Ow → Prop) : Prop := match ds with
  | [.lst ds] => Q ds O
  | _ => False
def asL2 (ds : List D) (O : Ow) (Q : List D → List D → Ow → Prop) : Prop := match ds with
  | [.lst ds, .lst es] => Q ds es O
  | _ => False
section
variable {O : Ow} {xs ys : List D} {i j : Int}
theorem asL_l {Q : List D → Ow → Prop} : asL (.lst xs) O Q = Q xs O := rfl
theorem asT_t {Q : List D → Ow → Prop} : asT (.tup xs) O Q = Q xs O := rfl
theorem asSg_s {Q : List D → Ow → Prop} {x : Str} : asSg (.str x) O Q = Q (x.cps.toList.map fun c => .str ⟨#[c]⟩) O := rfl
theorem asR1_i {Q : Int → Nat → Ow → Prop} : asR1 [.int j] O Q = (-(2 ^ 62) ≤ j ∧ j < 2 ^ 62 ∧ Q 0 j.toNat O) := rfl
theorem asR2_i {Q : Int → Nat → Ow → Prop} : asR2 [.int i, .int j] O Q = ((-(2 ^ 62) ≤ i ∧ i < 2 ^ 62 ∧ -(2 ^ 62) ≤ j ∧ j < 2 ^ 62) ∧ Q i (j - i).toNat O) := rfl
theorem asL1_l {Q : List D → Ow → Prop} : asL1 [.lst xs] O Q = Q xs O := rfl
theorem asL2_l {Q : List D → List D → Ow → Prop} : asL2 [.lst xs, .lst ys] O Q = Q xs ys O := rfl
end
/-- a list -/
def fiList (fl : FE) : FI := fun ρ O Q => fl ρ O fun d O1 => asL d O1 Q
theorem di_list (hl : DE M X l fl) : DI M X tg l (fiList fl) := piMono (pi_list hl) fun σ H Q h => by
  obtain ⟨F, O, P, ρ, R, g, en, q, po⟩ := h
  refine ⟨F, O, P, ρ, _, g, en, q, fun d O1 F1 H1 v q1 s1 g1 r1 => ?_⟩
  unfold asL at q1
  cases d <;> first | exact q1.elim | skip
  rename_i ds
  simp only [Rep] at r1
  obtain ⟨a, xs, rfl, h1, h2⟩ := r1
  refine ⟨a, rfl, ⟨xs, SqL.of (g1.fz _ _ h1)⟩, po ds O1 F1 H1 _ q1 s1 g1 fun F2 O2 P2 H2 s2 g2 i => ⟨fun d e => ?_, fun hi => ?_⟩⟩
  · have sq : SqL X.K H2 a xs := SqL.of (g2.fz _ _ (s2 _ _ h1))
    obtain ⟨w, e1, r1⟩ := h2.get e
    refine ⟨⟨xs, w, sq, e1⟩, fun x H3 hy => ?_⟩
    obtain ⟨rfl, hx⟩ := hy
    have := hx xs sq
    rw [e1] at this
    cases this
    exact ⟨F2, Same.refl _, g2, r1.mono s2⟩
  · exact ⟨xs, SqL.of (g2.fz _ _ (s2 _ _ h1)), by rw [← h2.length]; exact hi⟩
/-- a tuple -/
def fiTup (fl : FE) : FI := fun ρ O Q => fl ρ O fun d O1 => asT d O1 Q
theorem SqT.uniq {K : PySem.W.Frag} {F : Hp} {a : Addr} {xs ys : List V} (h : SqT K F a xs) (h' : SqT K F a ys) (hk : ∀ o, K.lookup a = some o → F a = none) : xs = ys := by
  rcases h with (h | ⟨o, h⟩) | ⟨o, its, n, h1, h2, h3, h4, h5⟩
  · rcases h' with (h' | ⟨o', h'⟩) | ⟨o', its', n', h1', _⟩
    · rw [h] at h'; cases h'; rfl
    · rw [h] at h'; cases h'
    · rw [hk _ h1'] at h; cases h
  · rcases h' with (h' | ⟨o', h'⟩) | ⟨o', its', n', h1', _⟩
    · rw [h] at h'; cases h'
    · rw [h] at h'; cases h'; rfl
    · rw [hk _ h1'] at h; cases h
  · rcases h' with (h' | ⟨o', h'⟩) | ⟨o', its', n', h1', h2', h3', h4', h5'⟩
    · rw [hk _ h1] at h'; cases h'
    · rw [hk _ h1] at h'; cases h'
    · rw [h1] at h1'; cases h1'
      rw [h3] at h3'; cases h3'
      exact Vals.inj h5 h5'
theorem di_tup (hl : DE M X l fl) : DI M X tg l (fiTup fl) := piMono (pi_tup hl) fun σ H Q h => by
  obtain ⟨F, O, P, ρ, R, g, en, q, po⟩ := h
  refine ⟨F, O, P, ρ, _, g, en, q, fun d O1 F1 H1 v q1 s1 g1 r1 => ?_⟩
  unfold asT at q1
  cases d <;> first | exact q1.elim | skip
  rename_i ds
  simp only [Rep] at r1
  obtain ⟨a, xs, rfl, h1, h2⟩ := r1
  refine ⟨a, rfl, ⟨xs, Same.seqT g1.fz h1⟩, po ds O1 F1 H1 _ q1 s1 g1 fun F2 O2 P2 H2 s2 g2 i => ⟨fun d e => ?_, fun hi => ?_⟩⟩
  · have sq : SqT X.K H2 a xs := Same.seqT g2.fz (Same.seqT s2 h1)
    obtain ⟨w, e1, r1⟩ := h2.get e
    refine ⟨⟨xs, w, sq, e1⟩, fun x H3 hy => ?_⟩
    obtain ⟨rfl, hx⟩ := hy
    have := hx xs sq
    rw [e1] at this
    cases this
    exact ⟨F2, Same.refl _, g2, r1.mono s2⟩
  · exact ⟨xs, Same.seqT g2.fz (Same.seqT s2 h1), by rw [← h2.length]; exact hi⟩
/-- range(n), range(a, b) -/
def rangeD (lo : Int) (n : Nat) : List D := (List.range n).map fun i => .int (lo + (i : Nat))
theorem itOk_range {K : PySem.W.Frag} {F : Hp} (lo : Int) (n : Nat) : ItOk M K F (Itr lo n) (rangeD lo n) := fun F2 O2 P2 H2 s2 g2 i => by
  refine ⟨fun d e => ?_, fun hi => ?_⟩
  · unfold rangeD at e
    rw [List.getElem?_map] at e
    obtain ⟨j, e1, e2⟩ := Option.map_eq_some_iff.mp e
    have hi : i < n := by
      have := List.getElem?_eq_some_iff.mp e1
      obtain ⟨h, _⟩ := this
      simpa using h
    have hj : j = i := by
      rw [List.getElem?_range hi] at e1
      exact (Option.some.inj e1).symm
    subst hj
    subst e2
    refine ⟨hi, fun x H3 hy => ?_⟩
    obtain ⟨rfl, rfl⟩ := hy
    exact ⟨F2, Same.refl _, g2, by simp only [Rep]⟩
  · unfold rangeD at hi
    rw [List.length_map, List.length_range] at hi
    exact hi
def fiRng1 (fr : FA) : FI := fun ρ O Q => fr ρ O fun ds O1 => asR1 ds O1 fun i n O2 => Q (rangeD i n) O2
theorem di_range1 {a : Expr} {p : Pos} (hg : Gl X "range") (hm : X.mg "range" = none) (ha : DA M X [a] fr) (hs : starEach [a] X.env = [(false, eval a X.env)] := by rfl) : DI M X tg (.Call (.Name "range" p) [a] [] pos) (fiRng1 fr) :=
  piMono (pi_range1 hg hm ha hs) fun σ H Q h => by
    obtain ⟨F, O, P, ρ, R, g, en, q, po⟩ := h
    refine ⟨F, O, P, ρ, _, g, en, q, fun ds O1 F1 H1 vs q1 s1 g1 r1 => ?_⟩
    unfold asR1 at q1
    split at q1
    · obtain ⟨v, rfl, r1'⟩ := r1.one'
      simp only [Rep] at r1'
      exact ⟨_, by rw [r1'], q1.1, q1.2.1, po _ O1 F1 H1 _ q1.2.2 s1 g1 (itOk_range 0 _)⟩
    · exact q1.elim
def fiRng2 (fr : FA) : FI := fun ρ O Q => fr ρ O fun ds O1 => asR2 ds O1 fun i n O2 => Q (rangeD i n) O2
def fiStr (fl : FE) : FI := fun ρ O Q => fl ρ O fun d O1 => asSg d O1 Q
/-- enumerate(xs) -/
def enumD (ds : List D) : List D := ds.zipIdx.map fun p => .tup [.int (p.2 : Nat), p.1]
theorem enumD_get (ds : List D) (i : Nat) : (enumD ds)[i]? = ds[i]?.map fun d => .tup [.int (i : Nat), d] := by
  unfold enumD
  rw [List.getElem?_map, List.getElem?_zipIdx]
  cases ds[i]? with
  | none => rfl
  | some d => simp
theorem enumD_length (ds : List D) : (enumD ds).length = ds.length := by unfold enumD; rw [List.length_map, List.length_zipIdx]
def fiEnum (fr : FA) : FI := fun ρ O Q => fr ρ O fun ds O1 => asL1 ds O1 fun ds O2 => Q (enumD ds) O2
theorem di_enum {e : Expr} {p tpos : Pos} {elts : List Expr} {kk : Nat} (hg : Gl X "enumerate") (hm : X.mg "enumerate" = none) (ha : DA M X [e] fr) (hs : starEach [e] X.env = [(false, eval e X.env)] := by rfl) :
    DI M X (.Tuple elts kk tpos) (.Call (.Name "enumerate" p) [e] [] pos) (fiEnum fr) := piMono (pi_enum hg hm ha hs) fun σ H Q h => by
  obtain ⟨F, O, P, ρ, R, g, en, q, po⟩ := h
  refine ⟨F, O, P, ρ, _, g, en, q, fun ds O1 F1 H1 vs q1 s1 g1 r1 => ?_⟩
  unfold asL1 at q1
  split at q1
  · rename_i ds
    obtain ⟨v, rfl, r1'⟩ := r1.one'
    simp only [Rep] at r1'
    obtain ⟨a, xs, rfl, h1, h2⟩ := r1'
    refine ⟨a, xs, rfl, SqL.of (g1.fz _ _ h1), po _ O1 F1 H1 _ q1 s1 g1 fun F2 O2 P2 H2 s2 g2 i => ⟨fun d e => ?_, fun hi => ?_⟩⟩
    · rw [enumD_get] at e
      obtain ⟨d0, e0, rfl⟩ := Option.map_eq_some_iff.mp e
      have sq : SqL X.K H2 a xs := SqL.of (g2.fz _ _ (s2 _ _ h1))
      obtain ⟨w, e1, r1⟩ := h2.get e0
      refine ⟨⟨xs, w, sq, e1⟩, fun x H3 hy => ?_⟩
      obtain ⟨T, y, rfl, hT, rfl, hx⟩ := hy
      have hxx := hx xs sq
      rw [e1] at hxx
      cases hxx
      have hF := g2.freeF hT
      refine ⟨upd F2 T (.tup [.int (i : Nat), w]), same_upd hF, g2.new hT, ?_⟩
      simp only [Rep]
      refine ⟨T, _, rfl, .inl (.inl upd_same), .cons (by simp only [Rep]) (.one ((r1.mono s2).mono (same_upd hF)))⟩
    · rw [enumD_length] at hi
      exact ⟨xs, SqL.of (g2.fz _ _ (s2 _ _ h1)), by rw [← h2.length]; exact hi⟩
  · exact q1.elim
/-- zip(xs, ys) -/
def zipD (ds es : List D) : List D := (ds.zip es).map fun p => .tup [p.1, p.2]
def fiZip (fr : FA) : FI := fun ρ O Q => fr ρ O fun ds O1 => asL2 ds O1 fun ds es O2 => Q (zipD ds es) O2
/-- reversed(xs) -/
def fiRev (fr : FA) : FI := fun ρ O Q => fr ρ O fun ds O1 => asL1 ds O1 fun ds O2 => Q ds.reverse O2
/-! ### for -/
def forD (p : Pat) (gb : GS) (R : DEnds) : List D → DEnv → Ow → Prop
  | [], ρ, O => R.nx ρ O
  | d :: ds, ρ, O => patGet (patD p d ρ) fun ρ1 => gb { R with nx := forD p gb R ds, ct := forD p gb R ds, bk := R.nx } ρ1 O
def gFor (fi : FI) (p : Pat) (gb : GS) : GS := fun R ρ O => fi ρ O fun ds O1 => forD p gb R ds ρ O1
theorem ds_for {body : List Stmt} {fi : FI} {p : Pat} {gb : GS} (hp : PassesOwn (model X.prog X.w) X.A X.env X.xe) (hc : X.calm = true) (hi : DI M X tg iter fi) (hg : DP X tg p) (hb : DSs M X body gb)
    (hs : ∀ x, foldedSetIterable iter X.env x = pure x := by intro _; rfl) : DS M X (.For tg iter body [] pos) (gFor fi p gb) := psMono (ps_for hp hc hi hg hb hs) fun D σ H h => by
  obtain ⟨F, O, P, ρ, R, g, en, q, po⟩ := h
  refine ⟨F, O, P, ρ, _, g, en, q, fun ds O1 F1 H1 J q1 s1 g1 it => ?_⟩
  refine ⟨fun i m σ H => ∃ F2 O2 ρ2, i + m = ds.length ∧ Same F1 F2 ∧ Gd M X.K F2 O2 P H ∧ EnvOk X.K F2 ρ2 σ ∧ forD p gb R (ds.drop i) ρ2 O2,
    ⟨ds.length, F1, O1, ρ, by omega, Same.refl _, g1, en.mono s1, by rw [List.drop_zero]; exact q1⟩, fun i m σ2 H2 hW => ?_⟩
  obtain ⟨F2, O2, ρ2, hm, s2, g2, en2, q2⟩ := hW
  obtain ⟨it1, it2⟩ := it F2 O2 P H2 s2 g2 i
  by_cases hi : i < ds.length
  · obtain ⟨hgo, hy⟩ := it1 ds[i] (List.getElem?_eq_getElem hi)
    rw [List.drop_eq_getElem_cons hi] at q2
    unfold forD at q2
    refine .inr ⟨hgo, fun σ' H' => ∃ F3 O3 ρ3, Same F1 F3 ∧ Gd M X.K F3 O3 P H' ∧ EnvOk X.K F3 ρ3 σ' ∧ forD p gb R (ds.drop (i + 1)) ρ3 O3, fun σ' H' hN => ?_, fun x H' hyy => ?_⟩
    · obtain ⟨F3, O3, ρ3, s3, g3, en3, q3⟩ := hN
      exact ⟨m - 1, by omega, F3, O3, ρ3, by omega, s3, g3, en3, q3⟩
    · obtain ⟨F3, s3, g3, r3⟩ := hy x H' hyy
      cases e1 : patD p ds[i] ρ2 with
      | none => rw [e1] at q2; exact q2.elim
      | some ρ3 =>
        rw [e1] at q2
        refine pat_ok g3 p ds[i] x ρ2 ρ3 σ2 _ e1 r3 (en2.mono s3) fun σ4 en4 _ => ?_
        refine ⟨F3, O2, P, ρ3, _, g3, en4, q2, ⟨fun ρ5 O5 F5 H5 σ5 q5 s5 g5 en5 => ?_, ?_, ?_, fun ρ5 O5 F5 H5 σ5 q5 s5 g5 en5 => ?_⟩⟩
        · exact ⟨F5, O5, ρ5, s2.trans (s3.trans s5), g5, en5, q5⟩
        · exact po.rt.more (s1.trans (s2.trans s3))
        · exact po.nx.more (s1.trans (s2.trans s3))
        · exact ⟨F5, O5, ρ5, s2.trans (s3.trans s5), g5, en5, q5⟩
  · refine .inl ⟨it2 (by omega), ?_⟩
    rw [List.drop_eq_nil_of_le (by omega)] at q2
    exact po.nx ρ2 O2 F2 H2 σ2 q2 (s1.trans s2) g2 en2
/-! ### while -/
def gWhile (ft : FT) (gb : GS) : GS := fun R ρ O => ∃ I : Nat → DEnv → Ow → Prop, (∃ m, I m ρ O) ∧ ∀ m ρ O, I m ρ O →
  ft ρ O fun b O1 => if b = true then gb { R with nx := fun ρ' O' => ∃ m', m' < m ∧ I m' ρ' O', ct := fun ρ' O' => ∃ m', m' < m ∧ I m' ρ' O', bk := R.nx } ρ O1 else R.nx ρ O1
theorem ds_while {body : List Stmt} {gb : GS} (hp : PassesOwn (model X.prog X.w) X.A X.env X.xe) (hc : DT M X c ft) (hb : DSs M X body gb) : DS M X (.While c body [] pos) (gWhile ft gb) := psMono (ps_while hp hc hb) fun D σ H h => by
  obtain ⟨F, O, P, ρ, R, g, en, ⟨I, ⟨m0, h0⟩, hI⟩, po⟩ := h
  refine ⟨fun m σ H => ∃ F2 O2 ρ2, Same F F2 ∧ Gd M X.K F2 O2 P H ∧ EnvOk X.K F2 ρ2 σ ∧ I m ρ2 O2, ⟨m0, F, O, ρ, Same.refl _, g, en, h0⟩, fun m σ2 H2 hW => ?_⟩
  obtain ⟨F2, O2, ρ2, s2, g2, en2, q2⟩ := hW
  refine ⟨F2, O2, P, ρ2, _, g2, en2, hI m ρ2 O2 q2, fun k O3 F3 H3 q3 s3 g3 => ?_⟩
  cases k with
  | false => rw [if_neg Bool.false_ne_true] at q3 ⊢; exact po.nx ρ2 O3 F3 H3 σ2 q3 (s2.trans s3) g3 (en2.mono s3)
  | true =>
    rw [if_pos rfl] at q3 ⊢
    refine ⟨fun σ' H' => ∃ F4 O4 ρ4, Same F F4 ∧ Gd M X.K F4 O4 P H' ∧ EnvOk X.K F4 ρ4 σ' ∧ ∃ m', m' < m ∧ I m' ρ4 O4, fun σ' H' hN => ?_, ?_⟩
    · obtain ⟨F4, O4, ρ4, s4, g4, en4, m', hm, q4⟩ := hN
      exact ⟨m', hm, F4, O4, ρ4, s4, g4, en4, q4⟩
    · refine ⟨F3, O3, P, ρ2, _, g3, en2.mono s3, q3, ⟨fun ρ5 O5 F5 H5 σ5 q5 s5 g5 en5 => ?_, ?_, ?_, fun ρ5 O5 F5 H5 σ5 q5 s5 g5 en5 => ?_⟩⟩
      · exact ⟨F5, O5, ρ5, s2.trans (s3.trans s5), g5, en5, q5⟩
      · exact po.rt.more (s2.trans s3)
      · exact po.nx.more (s2.trans s3)
      · exact ⟨F5, O5, ρ5, s2.trans (s3.trans s5), g5, en5, q5⟩
end
end Kf
namespace Kf
open PySem PySem.Spec L2
open PyProof.Rows hiding St
variable {M : MX}

/-! ### a thing that stands aside -/
section
variable {K : PySem.W.Frag} {F P H : Hp} {O : Ow} {p : Addr} {o o' : HO}
theorem Gd.aside (g : Gd M K F O P H) (h : H p = none) (nt : NT o := by intro _ e; cases e) : Gd M K F O (upd P p o) (upd H p o) := by
  have hF := g.freeF h
  have hO := g.freeO h
  have g' := g.skip (o := o) h
  refine ⟨g'.fz, fun a c e => ?_, fun a u e => ?_, M.mono g.rl (Same.refl _) (same_upd (g.freeP h)), fun a u e => by
    by_cases q : a = p
    · subst q; rw [upd_same] at e; cases e; exact nt
    · rw [upd_ne q] at e; exact g.nt a u e⟩
  · have ne : a ≠ p := fun q => by rw [q, hO] at e; cases e
    obtain ⟨h1, h2, h3⟩ := g'.ow a c e
    exact ⟨h1, (upd_ne ne).trans h2, h3⟩
  · by_cases q : a = p
    · subst q; rw [upd_same] at e; cases e; exact ⟨hF, upd_same⟩
    · rw [upd_ne q] at e; exact g'.as a u e
theorem Gd.asideSet (g : Gd M K F O (upd P p o) H) (mk : M.rel F (upd P p o')) (nt : NT o' := by intro _ e; cases e) : Gd M K F O (upd P p o') (upd H p o') := by
  obtain ⟨hF, hH⟩ := g.as p o upd_same
  refine ⟨fun b x e => ?_, fun a c e => ?_, fun a u e => ?_, mk, fun a u e => by
    by_cases q : a = p
    · subst q; rw [upd_same] at e; cases e; exact nt
    · rw [upd_ne q] at e; exact g.nt a u ((upd_ne q).trans e)⟩
  · have ne : b ≠ p := fun q => by rw [q, hF] at e; cases e
    rw [upd_ne ne]; exact g.fz b x e
  · obtain ⟨h1, h2, h3⟩ := g.ow a c e
    have ne : a ≠ p := fun q => by rw [q, upd_same] at h2; cases h2
    rw [upd_ne ne] at h2
    exact ⟨h1, (upd_ne ne).trans h2, h3.mono (Same.refl _) (upd_ne ne)⟩
  · by_cases q : a = p
    · subst q; rw [upd_same] at e; cases e; exact ⟨hF, upd_same⟩
    · rw [upd_ne q] at e
      obtain ⟨h1, h2⟩ := g.as a u ((upd_ne q).trans e)
      exact ⟨h1, (upd_ne q).trans h2⟩
theorem Gd.asideFz (g : Gd M K F O (upd P p o) H) (hP : P p = none) (mk : M.rel F P) : Same F (upd F p o) ∧ Gd M K (upd F p o) O P H := by
  obtain ⟨hF, hH⟩ := g.as p o upd_same
  have s : Same F (upd F p o) := same_upd hF
  refine ⟨s, fun b x e => ?_, fun a c e => ?_, fun a u e => ?_, M.mono mk s (Same.refl _), fun a u e => g.nt a u ((upd_ne (fun q => by rw [q, hP] at e; cases e)).trans e)⟩
  · by_cases q : b = p
    · subst q; rw [upd_same] at e; cases e; exact hH
    · rw [upd_ne q] at e; exact g.fz b x e
  · obtain ⟨h1, h2, h3⟩ := g.ow a c e
    have ne : a ≠ p := fun q => by rw [q, upd_same] at h2; cases h2
    rw [upd_ne ne] at h2
    exact ⟨(upd_ne ne).trans h1, h2, h3.mono s rfl⟩
  · have ne : a ≠ p := fun q => by rw [q, hP] at e; cases e
    obtain ⟨h1, h2⟩ := g.as a u ((upd_ne ne).trans e)
    exact ⟨(upd_ne ne).trans h1, h2⟩
end

/-! ### list comprehensions -/
def wipeD (ρ : DEnv) : List Nat → DEnv
  | [] => ρ
  | v :: vs => (wipeD ρ vs).set v none
theorem EnvOk.wipes {K : PySem.W.Frag} {F : Hp} {ρ : DEnv} {σ : L2.St} (h : EnvOk K F ρ σ) : ∀ vs : List Nat, EnvOk K F (wipeD ρ vs) (L2.wipe σ vs)
  | [] => h
  | v :: vs => by unfold wipeD L2.wipe; exact (EnvOk.wipes h vs).wipe v
theorem wipe_in {σ : L2.St} {i : Nat} : ∀ {vs : List Nat}, i ∈ vs → (wipe σ vs)[i]? = if i < σ.length then some none else none
  | [], h => by cases h
  | v :: vs, h => by
    unfold L2.wipe
    by_cases e : v = i
    · subst e
      by_cases c : v < σ.length
      · rw [if_pos c, List.getElem?_set_self (by rw [wipe_length]; exact c)]
      · rw [if_neg c, List.getElem?_eq_none (by rw [List.length_set, wipe_length]; omega)]
    · rw [List.getElem?_set_ne e]
      exact wipe_in ((List.mem_cons.mp h).resolve_left fun q => e q.symm)
theorem wipe_off {σ τ : L2.St} {vs ws : List Nat} (h : Off ws (wipe σ vs) τ) (hs : ∀ i ∈ ws, i ∈ vs) : wipe τ vs = wipe σ vs := by
  refine List.ext_getElem? fun i => ?_
  have hl : τ.length = σ.length := by rw [← h.1, wipe_length]
  by_cases c : i ∈ vs
  · rw [wipe_in c, wipe_in c, hl]
  · rw [wipe_out c]
    exact h.2 i fun q => c (hs i q)
def lcD (p : Pat) (ft : FT) (fe : FE) (ρ : DEnv) : List D → List D → Ow → (List D → Ow → Prop) → Prop
  | [], acc, O, Q => Q acc O
  | d :: ds, acc, O, Q => patGet (patD p d ρ) fun ρ1 => ft ρ1 O fun b O1 => if b = true then fe ρ1 O1 fun e O2 => acc.length < sizeLine ∧ lcD p ft fe ρ ds (acc ++ [e]) O2 Q else lcD p ft fe ρ ds acc O1 Q
def fLc (fi : FI) (p : Pat) (ft : FT) (fe : FE) (vs : List Nat) : FE := fun ρ O Q => fi ρ O fun ds O1 => lcD p ft fe (wipeD ρ vs) ds [] O1 fun acc O2 => Q (.lst acc) O2
def fLcO (fi : FI) (p : Pat) (ft : FT) (fe : FE) (vs : List Nat) : FE := fun ρ O Q => fi ρ O fun ds O1 => lcD p ft fe (wipeD ρ vs) ds [] O1 fun acc O2 => ∀ q, O2 q = none → Q (.ref q) (updO O2 q (.lst acc))
def fYes : FT := fun _ O Q => Q true O
section
variable {X : Cx} {elt tg iter : Expr} {ifs : List Expr} {scope : Scope} {own : List (Str × Nat)} {pos : Pos} {fi : FI} {p : Pat} {ft : FT} {fe : FE}
theorem dts_nil : PTs X [] (liftT M X.K fYes) := ⟨fun pins s σ H Q I h => by
  obtain ⟨F, O, P, ρ, R, g, en, q, po⟩ := h
  exact pts_nil.run pins s σ H Q I (po true O F H q (Same.refl _) g)⟩
theorem fLc_core {vs : List Nat} {K : PySem.W.Frag} (hv : ∀ i ∈ patI p, i ∈ vs) {σ : L2.St} {H : Hp} {Q : VK} {F P : Hp} {O : Ow} {ρ : DEnv} {R : List D → Ow → Prop} (g : Gd M K F O P H) (en : EnvOk K F ρ σ)
    (q : fi ρ O fun ds O1 => lcD p ft fe (wipeD ρ vs) ds [] O1 R)
    (po : ∀ acc O' F' H' q vacc, R acc O' → Same F F' → P q = none → M.rel F' P → Gd M K F' O' (upd P q (.lst vacc)) H' → RepAll K F' acc vacc → Q (.ref q) H') :
    tLc (liftI M K fi) (patT K p) (liftT M K ft) (liftE M K fe) vs σ H Q := by
  refine ⟨F, O, P, ρ, _, g, en, q, fun ds O1 F1 H1 J q1 s1 g1 it D hD => ?_⟩
  have hP := g1.freeP hD
  refine ⟨fun i m H => ∃ F2 O2 acc vacc, i + m = ds.length ∧ Same F1 F2 ∧ Gd M K F2 O2 (upd P D (.lst vacc)) H ∧ RepAll K F2 acc vacc ∧ lcD p ft fe (wipeD ρ vs) (ds.drop i) acc O2 R,
    ⟨ds.length, F1, O1, [], [], by omega, Same.refl _, g1.aside hD, .nil, by rw [List.drop_zero]; exact q1⟩, fun i m H2 hW => ?_⟩
  obtain ⟨F2, O2, acc, vacc, hm, s2, g2, ra, q2⟩ := hW
  obtain ⟨it1, it2⟩ := it F2 O2 (upd P D (.lst vacc)) H2 s2 g2 i
  by_cases hi : i < ds.length
  · obtain ⟨hgo, hy⟩ := it1 ds[i] (List.getElem?_eq_getElem hi)
    rw [List.drop_eq_getElem_cons hi] at q2
    unfold lcD at q2
    refine .inr ⟨hgo, fun H' => ∃ F3 O3 acc vacc, Same F1 F3 ∧ Gd M K F3 O3 (upd P D (.lst vacc)) H' ∧ RepAll K F3 acc vacc ∧ lcD p ft fe (wipeD ρ vs) (ds.drop (i + 1)) acc O3 R, fun H' hN => ?_, fun x H' hyy => ?_⟩
    · obtain ⟨F3, O3, acc3, vacc3, s3, g3, r3, q3⟩ := hN
      exact ⟨m - 1, by omega, F3, O3, acc3, vacc3, by omega, s3, g3, r3, q3⟩
    · obtain ⟨F3, s3, g3, r3⟩ := hy x H' hyy
      cases e1 : patD p ds[i] (wipeD ρ vs) with
      | none => rw [e1] at q2; exact q2.elim
      | some ρ3 =>
        rw [e1] at q2
        refine pat_ok g3 p ds[i] x (wipeD ρ vs) ρ3 (wipe σ vs) _ e1 r3 ((en.mono (s1.trans (s2.trans s3))).wipes vs) fun σ4 en4 off => ?_
        refine ⟨wipe_off off hv, F3, O2, upd P D (.lst vacc), ρ3, _, g3, en4, q2, fun b O5 F5 H5 q5 s5 g5 => ?_⟩
        cases b with
        | true =>
          rw [if_pos rfl] at q5 ⊢
          refine ⟨F5, O5, upd P D (.lst vacc), ρ3, _, g5, en4.mono s5, q5, fun y O6 F6 H6 w q6 s6 g6 r6 => ?_⟩
          refine ⟨vacc, (g6.as D _ upd_same).2, by rw [← ra.length]; exact q6.1, F6, O6, acc ++ [y], vacc ++ [w], s2.trans (s3.trans (s5.trans s6)), g6.asideSet (M.mono g1.rl (s2.trans (s3.trans (s5.trans s6))) (same_upd hP)), (ra.mono (s3.trans (s5.trans s6))).append (.one r6), q6.2⟩
        | false =>
          rw [if_neg Bool.false_ne_true] at q5 ⊢
          exact ⟨F5, O5, acc, vacc, s2.trans (s3.trans s5), g5, ra.mono (s3.trans s5), q5⟩
  · rw [List.drop_eq_nil_of_le (by omega)] at q2
    exact .inl ⟨it2 (by omega), po acc O2 F2 H2 D vacc q2 (s1.trans s2) hP (M.mono g1.rl s2 (Same.refl _)) g2 ra⟩
theorem fLc_lift {vs : List Nat} {K : PySem.W.Frag} (hv : ∀ i ∈ patI p, i ∈ vs) : ∀ σ H Q, liftE M K (fLc fi p ft fe vs) σ H Q → tLc (liftI M K fi) (patT K p) (liftT M K ft) (liftE M K fe) vs σ H Q := fun σ H Q h => by
  obtain ⟨F, O, P, ρ, R, g, en, q, po⟩ := h
  refine fLc_core hv g en q fun acc O' F' H' a vacc q1 s1 hP mk g1 r1 => ?_
  obtain ⟨s2, g2⟩ := g1.asideFz hP mk
  refine po (.lst acc) O' _ H' _ q1 (s1.trans s2) g2 ?_
  simp only [Rep]
  exact ⟨a, vacc, rfl, upd_same, r1.mono s2⟩
theorem pat_in {vs : List Nat} (h : ((patI p).all fun i => vs.contains i) = true) : ∀ i ∈ patI p, i ∈ vs := fun i hi => by
  have := List.all_eq_true.mp h i hi
  simpa using this
theorem de_lc {vs : List Nat} (hc : X.calm = true) (hN : X.N.Nodup) (hi : DI M X tg iter fi) (ok : BlkOk X.N X.env.scope scope own)
    (hg : ∀ (s : Shared) (H : Hp) (C : Addr) (cl : List (Str × Addr)) (fp : List Addr), DP (X.blk s H scope (compEnvC scope cl C X.env) fp) tg p) (ht : ∀ (s : Shared) (H : Hp) (C : Addr) (cl : List (Str × Addr)) (fp : List Addr), PTs (X.blk s H scope (compEnvC scope cl C X.env) fp) ifs (liftT M X.K ft))
    (he : ∀ (s : Shared) (H : Hp) (C : Addr) (cl : List (Str × Addr)) (fp : List Addr), DE M (X.blk s H scope (compEnvC scope cl C X.env) fp) elt fe) (hvs : own.map (·.2) = vs := by rfl) (hv : ((patI p).all fun i => vs.contains i) = true := by decide) (hs : ∀ x, foldedSetIterable iter X.env x = pure x := by intro _; rfl) :
    DE M X (.ListComp elt [⟨tg, iter, ifs, 0⟩] scope pos) (fLc fi p ft fe vs) := by
  subst hvs
  exact peMono (pe_lc (te := liftE M X.K fe) (g := patT X.K p) hc hN hi ok hg ht he hs) (fLc_lift (pat_in hv))
/-- name = [..] on one line, the name a local -/
theorem ds_setLc {i : Nat} {vs : List Nat} {y : Str} {py spos : Pos} (hc : X.calm = true) (hN : X.N.Nodup) (hy : X.N[i]? = some y) (hyl : X.env.scope.names.lookup y = some .local)
    (hsw : swapsWith (.ListComp elt [⟨tg, iter, ifs, 0⟩] scope pos) (some (.Name y py)) spos.line X.env = pure true) (hi : DI M X tg iter fi) (ok : BlkOk X.N X.env.scope scope own)
    (hg : ∀ (s : Shared) (H : Hp) (C : Addr) (cl : List (Str × Addr)) (fp : List Addr), DP (X.blk s H scope (compEnvC scope cl C X.env) fp) tg p) (ht : ∀ (s : Shared) (H : Hp) (C : Addr) (cl : List (Str × Addr)) (fp : List Addr), PTs (X.blk s H scope (compEnvC scope cl C X.env) fp) ifs (liftT M X.K ft))
    (he : ∀ (s : Shared) (H : Hp) (C : Addr) (cl : List (Str × Addr)) (fp : List Addr), DE M (X.blk s H scope (compEnvC scope cl C X.env) fp) elt fe) (hvs : own.map (·.2) = vs := by rfl) (hv : ((patI p).all fun i => vs.contains i) = true := by decide) (hs : ∀ x, foldedSetIterable iter X.env x = pure x := by intro _; rfl) :
    DS M X (.Assign [.Name y py] (.ListComp elt [⟨tg, iter, ifs, 0⟩] scope pos) spos) (gSet (fLc fi p ft fe vs) i) := by
  subst hvs
  exact psMono (ps_setLc (te := liftE M X.K fe) (g := patT X.K p) hc hN hy hyl hsw hi ok hg ht he hs) (gSet_lift (fLc_lift (pat_in hv)))
end

/-! ### what a def promises, over data -/
theorem Gd.re {M' : MX} {K : PySem.W.Frag} {F P H : Hp} {O : Ow} (g : Gd M K F O P H) (mk : M'.rel F P) : Gd M' K F O P H := ⟨g.fz, g.ow, g.as, mk, g.nt⟩
theorem Gd.mt {K : PySem.W.Frag} {F P H : Hp} {O : Ow} (g : Gd M K F O P H) : Gd MT K F O P H := g.re trivial
theorem Gd.less {K : PySem.W.Frag} {F P P0 H : Hp} {O : Ow} (g : Gd MT K F O P H) (s : Same P0 P) : Gd MT K F O P0 H := by
  refine ⟨g.fz, fun a c e => ?_, fun a o e => g.as a o (s a o e), trivial, fun a o e => g.nt a o (s a o e)⟩
  obtain ⟨h1, h2, h3⟩ := g.ow a c e
  exact ⟨h1, s.free h2, h3⟩
theorem PostE.mt {K : PySem.W.Frag} {F F1 P H : Hp} {O : Ow} {R : VD} {Q : VK} (po : PostE M K F P R Q) (g : Gd M K F1 O P H) (s1 : Same F F1) : PostE MT K F1 P R Q := fun d O' F' H' v q s g' r => po d O' F' H' v q (s1.trans s) (g'.re (M.mono g.rl s (Same.refl _))) r
abbrev XD := Value → Option (List (Str × D)) → Ow → Prop
abbrev DSp := List D → Ow → VD → XD → Prop
def XdOk (K : PySem.W.Frag) (F _H : Hp) : Option (List (Str × D)) → Option Addr → Prop := XdR K F
def PostX (K : PySem.W.Frag) (F P : Hp) (RE : XD) (E : XK) : Prop := ∀ cls fs O' F' H' dd, RE cls fs O' → Same F F' → Gd MT K F' O' P H' → XdOk K F' H' fs dd → E cls dd H'
theorem PostX.more {K : PySem.W.Frag} {F F' P : Hp} {RE : XD} {E : XK} (po : PostX K F P RE E) (s : Same F F') : PostX K F' P RE E := fun cls fs O' F2 H' dd q s2 g x => po cls fs O' F2 H' dd q (s.trans s2) g x
def liftSp (K : PySem.W.Frag) (dsp : DSp) : Sp := fun vs H Q E => ∃ F O P ds R RE, Gd MT K F O P H ∧ RepAll K F ds vs ∧ dsp ds O R RE ∧ PostE MT K F P R Q ∧ PostX K F P RE E
abbrev X0 : XD := fun _ _ _ => False
section
variable {X : Cx} {e : Expr} {es : List Expr} {fr : FA} {CX : CXT} {k : Nat} {f : Addr} {fd : FuncData} {ps : List Str} {dsp : DSp} {x : Str} {p pos : Pos}
def fCall (dsp : DSp) (fr : FA) : FE := fun ρ O Q => fr ρ O fun ds O1 => dsp ds O1 Q X0
theorem de_call (G : FnOk X.prog X.w X.K X.mg X.base CX0 k f fd ps (liftSp X.K dsp)) (hr : Room k X.A) (hg : Gl X x) (hm : X.mg x = some (.ref f)) (hk : PySem.W.keepIn X.K (.ref f) = true) (hb : Binds X.K fd ps [])
    (ha : DA M X (e :: es) fr) (hdb : (x == ("__debug__" : Str)) = false := by decide) (he : starEach (e :: es) X.env = (false, eval e X.env) :: starEach es X.env := by rfl) (hpl : (backTo pos (starEach es X.env)).any (·.1) = false := by rfl) :
    DE M X (.Call (.Name x p) (e :: es) [] pos) (fCall dsp fr) := peMono (pe_call G hr hg hm hk hb .nil pass0 ha hdb he hpl) fun σ H Q h => by
  obtain ⟨F, O, P, ρ, R, g, en, q, po⟩ := h
  refine ⟨F, O, P, ρ, _, g, en, q, fun ds O1 F1 H1 vs q1 s1 g1 r1 => ?_⟩
  show liftSp X.K dsp (vs ++ []) H1 Q E0
  rw [List.append_nil]
  exact ⟨F1, O1, P, ds, R, X0, g1.mt, r1, q1, po.mt g1 s1, fun _ _ _ _ _ _ z => z.elim⟩
end
section
variable {P : Program} {w : World} {K : PySem.W.Frag} {mg : Str → Option Value} {base : Heap}
/-- the names' values at the entry -/
def startD (N : List Str) (ds : List D) : DEnv := ds.map some ++ List.replicate (N.length - ds.length) none
theorem fn_d {x qual : Str} {st : Stmt} {f : Addr} {fd : FuncData} {N ps : List Str} {k : Nat} {dsp : DSp} {g : GS} (F : Fun K x qual st f fd) (S : FnScope N ps (defScope st)) (len : ∀ ds O R RE, dsp ds O R RE → ds.length = ps.length)
    (hder : ∀ (cdv : Value) (A : Around) (outer : List Env) (s : Shared) (H : Hp) (E : XK), Room k (A.deeper (envOfC qual (defScope st) s.heap.objs.size f cdv)) →
      DSs MT (cxOf CX0 P w K mg base N qual (defScope st) f cdv A outer s H E).nox (defBody st) g)
    (hread : ∀ ds O R RE, dsp ds O R RE → g { nx := fun _ O' => R .non O', rt := R } (startD N ds) O) : FnOk P w K mg base CX0 (k + 1) f fd ps (liftSp K dsp) := by
  refine F.ok S (fun vs H Q E h => ?_) fun cdv A outer s H vs Q E hr h => ?_
  · obtain ⟨F, O, P, ds, R, RE, g, r, q, _⟩ := h
    rw [← r.length]; exact len ds O R RE q
  · obtain ⟨F, O, P, ds, R, RE, gd, r, q, po, _⟩ := h
    refine ⟨_, hder cdv A outer s H E hr, F, O, P, startD N ds, { nx := fun _ O' => R .non O', rt := R }, gd, ?_, hread ds O R RE q, ⟨fun ρ O' F' H' σ q1 s1 g1 _ => ?_, po, fun _ _ _ _ _ z => z.elim, fun _ _ _ _ _ z => z.elim⟩⟩
    · unfold startD L2.start
      rw [r.length]
      exact envOk_start _ r
    · exact po .non O' F' H' .non q1 s1 g1 (by simp only [Rep])
end
/-- no calls are left -/
theorem none_left {P : Program} {w : World} {K : PySem.W.Frag} {mg : Str → Option Value} {base : Heap} {CX : CXT} {f : Addr} {fd : FuncData} {ps : List Str} {dsp : DSp} {k : Nat} (no : ∀ ds O R RE, ¬ dsp ds O R RE) : FnOk P w K mg base CX k f fd ps (liftSp K dsp) := by
  have no' : ∀ vs H Q E, ¬ liftSp K dsp vs H Q E := fun vs H Q E h => by
    obtain ⟨F, O, P, ds, R, RE, g, r, q, _⟩ := h
    exact no ds O R RE q
  exact ⟨fun vs H Q E h => absurd h (no' vs H Q E), fun A outer s H args us vs Q E _ _ _ _ h => absurd h (no' vs H Q E)⟩
/-- the law's own promise -/
def lawSp (n : Nat) : DSp := fun ds _ R _ => ∃ ns : List Int, ds = [.scr ns] ∧ ns.length ≤ n ∧ ∀ O, R (.bl true) O
theorem law_start {K : PySem.W.Frag} {H : Hp} {a : Addr} {ns : List Int} {n : Nat} (hl : ns.length ≤ n) (h : SqL K H a (ns.map V.int)) : liftSp K (lawSp n) [.ref a] H (fun v _ => v = .bl true) fun _ _ _ => False := by
  refine ⟨fun b => if b = a then H b else none, fun _ => none, fun _ => none, [.scr ns], fun d _ => d = .bl true, X0, ⟨fun b o e => ?_, (fun _ _ e => nomatch e), (fun _ _ e => nomatch e), trivial, (fun _ _ e => nomatch e)⟩, ?_, ⟨ns, rfl, hl, fun _ => rfl⟩, fun d O' F' H' v q _ _ r => ?_, fun _ _ _ _ _ _ z => z.elim⟩
  · split at e
    · exact e
    · cases e
  · refine .one ?_
    simp only [Rep]
    refine ⟨a, rfl, ?_⟩
    rcases h with (h | ⟨o, h⟩) | h
    · exact .inl (.inl ((if_pos rfl).trans h))
    · exact .inl (.inr ⟨o, (if_pos rfl).trans h⟩)
    · exact .inr h
  · subst q
    simpa only [Rep] using r
end Kf
namespace Kf
open PySem PySem.Spec L2
open PyProof.Rows hiding St
variable {M : MX}

abbrev rSubD : R2D := rInts0 fun i j => .int (i - j)
abbrev rMulD : R2D := rInts CMul fun i j => .int (i * j)
abbrev rDivD : R2D := rInts CDv fun i j => .int (i / j)
abbrev rModD : R2D := rInts (fun _ j => 0 < j) fun i j => .int (i % j)
abbrev rPowD : R2D := rInts CPow fun i j => .int (i ^ j.toNat)
abbrev rGtD : R2D := rInts0 fun i j => .bl (decide (j < i))
abbrev rGeD : R2D := rInts0 fun i j => .bl (decide (j ≤ i))
theorem _root_.L2.Room.u200 {k : Nat} {A : Around} (r : Room k A) : A.units + 200 < cLine := by have := r.un; omega

/-- a def of the text: its place, its name, how it is called -/
structure Fn (K : PySem.W.Frag) (mg : Str → Option Value) (x : Str) (st : Stmt) (ps : List Str) (f : Addr) (fd : FuncData) : Prop where
  F : Fun K x x st f fd
  m : mg x = some (.ref f)
  b : Binds K fd ps []
section
variable {X : Cx} {e : Expr} {es : List Expr} {fr : FA} {k : Nat} {f : Addr} {fd : FuncData} {ps : List Str} {dsp : DSp} {x : Str} {st : Stmt} {p pos : Pos}
theorem de_callN (N : Fn X.K X.mg x st ps f fd) (G : FnOk X.prog X.w X.K X.mg X.base CX0 k f fd ps (liftSp X.K dsp)) (hr : Room k X.A) (hg : Gl X x)
    (ha : DA M X (e :: es) fr) (hdb : (x == ("__debug__" : Str)) = false := by decide) (he : starEach (e :: es) X.env = (false, eval e X.env) :: starEach es X.env := by rfl) (hpl : (backTo pos (starEach es X.env)).any (·.1) = false := by rfl) :
    DE M X (.Call (.Name x p) (e :: es) [] pos) (fCall dsp fr) := de_call G hr hg N.m N.F.kp N.b ha hdb he hpl
/-- a constant of the module -/
def Cst (K : PySem.W.Frag) (mg : Str → Option Value) (x : Str) (d : D) : Prop := ∃ u v, mg x = some u ∧ RelV v u ∧ ∀ F, Rep K F d v
theorem de_cst {d : D} (c : Cst X.K X.mg x d) (hg : Gl X x) (hd : (x == ("__debug__" : Str)) = false := by decide) : DE M X (.Name x pos) (fC d) := by
  obtain ⟨u, v, h1, h2, h3⟩ := c
  exact de_glob hg h1 h2 h3 hd
/-- a built-in class as a value -/
theorem de_ty {n : String} (hv : bootBuiltins x = some (.type n)) (hm : X.mg x = none) (hg : Gl X x) (hn : x ≠ "__name__" := by decide) (hd : (x == ("__debug__" : Str)) = false := by decide) : DE M X (.Name x pos) (fC (.ty n)) :=
  de_bltn (v := .ty n) hg hm hv rfl (fun _ => by simp only [Rep]) hn hd
end
theorem bb_len : bootBuiltins "len" = some (.builtin "len") := by decide +kernel
theorem bb_isinstance : bootBuiltins "isinstance" = some (.builtin "isinstance") := by decide +kernel
theorem bb_max : bootBuiltins "max" = some (.builtin "max") := by decide +kernel
theorem bb_min : bootBuiltins "min" = some (.builtin "min") := by decide +kernel
theorem bb_sum : bootBuiltins "sum" = some (.builtin "sum") := by decide +kernel
theorem bb_int : bootBuiltins "int" = some (.type "int") := by decide +kernel
theorem bb_str : bootBuiltins "str" = some (.type "str") := by decide +kernel
theorem bb_tuple : bootBuiltins "tuple" = some (.type "tuple") := by decide +kernel
theorem bb_list : bootBuiltins "list" = some (.type "list") := by decide +kernel
/-! ### ends that are known -/
theorem cst_int {K : PySem.W.Frag} {mg : Str → Option Value} {x : Str} {i : Int} {t : Tok} (h : mg x = some (.int i t)) : Cst K mg x (.int i) := ⟨_, .int i, h, ⟨t, rfl⟩, fun _ => by simp only [Rep]⟩
end Kf
namespace Kf
open PySem PySem.Spec L2
open PyProof.Rows hiding St
variable {M : MX}

/-! ### the readings at known data -/
section
variable {O : Ow} {Q : VD} {i j : Int} {a b : Str} {xs ys : List D} {d e x y z u : D} {p : Addr} {neg : Bool} {ns : List Int}
theorem deref_tup : deref O (.tup xs) = .tup xs := rfl
theorem deref_lst : deref O (.lst xs) = .lst xs := rfl
theorem deref_int : deref O (.int i) = .int i := rfl
theorem deref_str : deref O (.str a) = .str a := rfl
theorem deref_bl {k : Bool} : deref O (.bl k) = .bl k := rfl
theorem deref_non : deref O .non = .non := rfl
theorem deref_scr : deref O (.scr ns) = .scr ns := rfl
theorem rLt_i : rLtD (.int i) (.int j) O Q = Q (.bl (decide (i < j))) O := rfl
theorem rLt_s : rLtD (.str a) (.str b) O Q = Q (.bl (decide (a.cps.toList < b.cps.toList))) O := rfl
theorem rLe_i : rLeD (.int i) (.int j) O Q = Q (.bl (decide (i ≤ j))) O := rfl
theorem rLe_s : rLeD (.str a) (.str b) O Q = Q (.bl (!decide (b.cps.toList < a.cps.toList))) O := rfl
theorem rInts_i {C : Int → Int → Prop} {f : Int → Int → D} : rInts C f (.int i) (.int j) O Q = (C i j ∧ Q (f i j) O) := rfl
theorem rInts0_i {f : Int → Int → D} : rInts0 f (.int i) (.int j) O Q = Q (f i j) O := rfl
theorem rAdd_i : rAddD (.int i) (.int j) O Q = Q (.int (i + j)) O := rfl
theorem rAdd_s : rAddD (.str a) (.str b) O Q = (a.length + b.length ≤ sizeLine ∧ Q (.str (a ++ b)) O) := rfl
theorem rAdd_l : rAddD (.lst xs) (.lst ys) O Q = (xs.length + ys.length ≤ sizeLine ∧ Q (.lst (xs ++ ys)) O) := rfl
theorem rAdd_t : rAddD (.tup xs) (.tup ys) O Q = (xs ≠ [] ∧ xs.length + ys.length ≤ sizeLine ∧ Q (.tup (xs ++ ys)) O) := rfl
theorem rCatO_l : rCatO (.lst xs) (.lst ys) O Q = (xs.length + ys.length ≤ sizeLine ∧ ∀ p, O p = none → Q (.ref p) (updO O p (.lst (xs ++ ys)))) := rfl
theorem rNeg_i : rNeg (.int i) O Q = Q (.int (-i)) O := rfl
theorem rLen_t : rLenD [.tup xs] O Q = Q (.int xs.length) O := rfl
theorem rLen_l : rLenD [.lst xs] O Q = Q (.int xs.length) O := rfl
theorem rLen_c : rLenD [.scr ns] O Q = Q (.int ns.length) O := rfl
theorem rLen_s : rLenD [.str a] O Q = (a.length ≤ sizeLine ∧ Q (.int a.length) O) := rfl
theorem rLen_r (h : O p = some (.lst xs)) : rLenD [.ref p] O Q = Q (.int xs.length) O := by simp only [rLenD, deref, h]
theorem rMax_i : rMax2 [.int i, .int j] O Q = Q (.int (if j > i then j else i)) O := rfl
theorem rMin_i : rMin2 [.int i, .int j] O Q = Q (.int (if j < i then j else i)) O := rfl
theorem rDivmod_i : rDivmod [.int i, .int j] O Q = (CDv i j ∧ Q (.tup [.int (i / j), .int (i % j)]) O) := rfl
theorem rInt_i : rInt1 [.int i] O Q = Q (.int i) O := rfl
theorem rInt_b {k : Bool} : rInt1 [.bl k] O Q = Q (.int (if k then 1 else 0)) O := rfl
theorem rStr_i : rStr1 [.int i] O Q = (i.natAbs.log2 < 1920 ∧ Q (.str (toString i)) O) := rfl
theorem rList_l : rList1 [.lst xs] O Q = Q (.lst xs) O := rfl
theorem rList_t : rList1 [.tup xs] O Q = Q (.lst xs) O := rfl
theorem rListO_l : rList1O [.lst xs] O Q = ∀ p, O p = none → Q (.ref p) (updO O p (.lst xs)) := rfl
theorem rListO_t : rList1O [.tup xs] O Q = ∀ p, O p = none → Q (.ref p) (updO O p (.lst xs)) := rfl
theorem rTup_l : rTup1 [.lst xs] O Q = Q (.tup xs) O := rfl
theorem rTup_t : rTup1 [.tup xs] O Q = Q (.tup xs) O := rfl
theorem rSum_l {ns : List Int} (h : asInts xs = some ns) : rSumD [.lst xs] O Q = Q (.int ns.sum) O := by simp only [rSumD, deref, h]
theorem ixC0 {α : Type} (x : α) (r : List α) : atI (x :: r) 0 = some x := by
  have := atI_nat (xs := x :: r) (j := 0) (v := x) rfl
  simpa using this
theorem ixC1 {α : Type} (x y : α) (r : List α) : atI (x :: y :: r) 1 = some y := by
  have := atI_nat (xs := x :: y :: r) (j := 1) (v := y) rfl
  simpa using this
theorem ixC2 {α : Type} (x y z : α) (r : List α) : atI (x :: y :: z :: r) 2 = some z := by
  have := atI_nat (xs := x :: y :: z :: r) (j := 2) (v := z) rfl
  simpa using this
theorem ixC3 {α : Type} (x y z u : α) (r : List α) : atI (x :: y :: z :: u :: r) 3 = some u := by
  have := atI_nat (xs := x :: y :: z :: u :: r) (j := 3) (v := u) rfl
  simpa using this
theorem rIx_t (h : atI xs i = some d) : rIxD (.tup xs) (.int i) O Q = Q d O := by simp only [rIxD, deref, h]
theorem rIx_l (h : atI xs i = some d) : rIxD (.lst xs) (.int i) O Q = Q d O := by simp only [rIxD, deref, h]
theorem rIx_c {n : Int} (h : atI ns i = some n) : rIxD (.scr ns) (.int i) O Q = Q (.int n) O := by simp only [rIxD, deref, h]
theorem rIx_r (h' : O p = some (.lst xs)) (h : atI xs i = some d) : rIxD (.ref p) (.int i) O Q = Q d O := by simp only [rIxD, deref, h', h]
theorem rIx_t0 : rIxD (.tup (x :: xs)) (.int 0) O Q = Q x O := rIx_t (ixC0 _ _)
theorem rIx_t1 : rIxD (.tup (x :: y :: xs)) (.int 1) O Q = Q y O := rIx_t (ixC1 _ _ _)
theorem rIx_t2 : rIxD (.tup (x :: y :: z :: xs)) (.int 2) O Q = Q z O := rIx_t (ixC2 _ _ _ _)
theorem rIx_t3 : rIxD (.tup (x :: y :: z :: u :: xs)) (.int 3) O Q = Q u O := rIx_t (ixC3 _ _ _ _ _)
theorem rIx_l0 : rIxD (.lst (x :: xs)) (.int 0) O Q = Q x O := rIx_l (ixC0 _ _)
theorem rIx_l1 : rIxD (.lst (x :: y :: xs)) (.int 1) O Q = Q y O := rIx_l (ixC1 _ _ _)
theorem rIx_l2 : rIxD (.lst (x :: y :: z :: xs)) (.int 2) O Q = Q z O := rIx_l (ixC2 _ _ _ _)
theorem rIx_p0 (h : O p = some .pool) : rIxD (.ref p) (.int 0) O Q = ∀ x : Int, 0 ≤ x → Q (.int x) O := by
  simp only [rIxD, deref, h]; simp
theorem rIx_p1 (h : O p = some .pool) : rIxD (.ref p) (.int 1) O Q = ∀ x : Int, 0 ≤ x → x < 2147483647 → Q (.int x) O := by
  simp only [rIxD, deref, h]; simp
theorem rIsN_x : rIsN neg x .non O Q = Q (.bl (neg ^^ isNon x)) O := rfl
theorem isNon_t : isNon (.tup xs) = false := rfl
theorem isNon_n : isNon .non = true := rfl
theorem isNon_i : isNon (.int i) = false := rfl
theorem isNon_s : isNon (.str a) = false := rfl
theorem isNon_l : isNon (.lst xs) = false := rfl
/-! == -/
/-- == of data -/
def deq (x y : D) : Bool := PyData.eqv (toPy x) (toPy y)
def deqs (xs ys : List D) : Bool := PyData.eqvAll (toPys xs) (toPys ys)
theorem deq_t : deq (.tup xs) (.tup ys) = deqs xs ys := by simp only [deq, toPy, PyData.eqv, deqs]
theorem deq_l : deq (.lst xs) (.lst ys) = deqs xs ys := by simp only [deq, toPy, PyData.eqv, deqs]
theorem deq_nn : deq .non .non = true := by simp only [deq, toPy, PyData.eqv]
theorem str_beq (a b : Str) : (a == b) = decide (a = b) := by
  by_cases h : a = b
  · subst h; simp
  · rw [decide_eq_false h]; exact beq_eq_false_iff_ne.mpr h
theorem deq_s : deq (.str a) (.str b) = decide (a = b) := by simp only [deq, toPy, PyData.eqv, str_beq]
theorem deq_i : deq (.int i) (.int j) = decide (i = j) := by simp only [deq, toPy, PyData.eqv, Bool.beq_eq_decide_eq]
theorem deq_b {k l : Bool} : deq (.bl k) (.bl l) = decide (k = l) := by simp only [deq, toPy, PyData.eqv, Bool.beq_eq_decide_eq]
theorem deqs_nn : deqs [] [] = true := by simp only [deqs, toPys, PyData.eqvAll]
theorem deqs_nc : deqs [] (y :: ys) = false := by simp only [deqs, toPys, PyData.eqvAll]
theorem deqs_cn : deqs (x :: xs) [] = false := by simp only [deqs, toPys, PyData.eqvAll]
theorem deqs_cc : deqs (x :: xs) (y :: ys) = (deq x y && deqs xs ys) := by simp only [deqs, deq, toPys, PyData.eqvAll]
/-- == at data read through: what is asked, what is answered -/
theorem rEq_dd (hx : isPy (ddf O 192 x) = true) (hy : isPy (ddf O 192 y) = true) (hd : dp (ddf O 192 x) ≤ 190) : rEqD neg x y O Q = Q (.bl (neg ^^ deq (ddf O 192 x) (ddf O 192 y))) O := by
  have hm : min (dp (ddf O 192 x)) (dp (ddf O 192 y)) ≤ 190 := Nat.le_trans (Nat.min_le_left _ _) hd
  simp only [rEqD, hx, hy, hm, deq, true_and]
/-- .. where the right one is flat -/
theorem rEq_dr (hx : isPy (deref O x) = true) (hy : isPy (deref O y) = true) (hd : dp (deref O y) ≤ 190) : rEqD neg x y O Q = Q (.bl (neg ^^ deq (deref O x) (deref O y))) O := by
  have ex : ddf O 192 x = deref O x := ddf_deref hx
  have ey : ddf O 192 y = deref O y := ddf_deref hy
  have hm : min (dp (deref O x)) (dp (deref O y)) ≤ 190 := Nat.le_trans (Nat.min_le_right _ _) hd
  simp only [rEqD, ex, ey, hx, hy, hm, deq, true_and]
/-- == at data: what is asked, what is answered -/
theorem rEq_d (hx : isPy (deref O x) = true) (hy : isPy (deref O y) = true) (hd : dp (deref O x) ≤ 190) : rEqD neg x y O Q = Q (.bl (neg ^^ deq (deref O x) (deref O y))) O := by
  have ex : ddf O 192 x = deref O x := ddf_deref hx
  have ey : ddf O 192 y = deref O y := ddf_deref hy
  rw [rEq_dd (by rw [ex]; exact hx) (by rw [ey]; exact hy) (by rw [ex]; exact hd), ex, ey]
theorem rEq_i : rEqD neg (.int i) (.int j) O Q = Q (.bl (neg ^^ decide (i = j))) O := by
  rw [rEq_d (by simp only [deref, isPy]) (by simp only [deref, isPy]) (by simp [deref, dp, toPy, PyData.depth]), deref_int, deref_int, deq_i]
theorem rEq_b {k l : Bool} : rEqD neg (.bl k) (.bl l) O Q = Q (.bl (neg ^^ decide (k = l))) O := by
  rw [rEq_d (by simp only [deref, isPy]) (by simp only [deref, isPy]) (by simp [deref, dp, toPy, PyData.depth]), deref_bl, deref_bl, deq_b]
theorem rEq_s (h1 : PyData.strOk a = true) (h2 : PyData.strOk b = true) : rEqD neg (.str a) (.str b) O Q = Q (.bl (neg ^^ decide (a = b))) O := by
  rw [rEq_d (by simpa only [deref, isPy] using h1) (by simpa only [deref, isPy] using h2) (by simp [deref, dp, toPy, PyData.depth]), deref_str, deref_str, deq_s]
theorem rApp_r (h : O p = some (.lst xs)) : rAppendD (.ref p) [y] O Q = (xs.length < sizeLine ∧ Q .non (updO O p (.lst (xs ++ [y])))) := by simp only [rAppendD, h]
theorem tyOk_r (h : O p = some (.lst xs)) : tyOk "list" O (.ref p) = true := by simp [tyOk, tyNm, h]
theorem tyOk_l : tyOk "list" O (.lst xs) = true := rfl
theorem tyOk_s : tyOk "str" O (.str a) = true := rfl
theorem rPool_i : rPool [.int i, .int j] O Q = (0 ≤ i ∧ 0 ≤ j ∧ j < 2147483647 ∧ ∀ p, O p = none → Q (.ref p) (updO O p .pool)) := rfl
theorem rSet_p0 {N : Ow → Prop} (h : O p = some .pool) : rSetD (.ref p) (.int 0) (.int i) O N = (0 ≤ i ∧ N O) := by
  simp only [rSetD, h]; simp
theorem rSet_p1 {N : Ow → Prop} (h : O p = some .pool) : rSetD (.ref p) (.int 1) (.int i) O N = ((0 ≤ i ∧ i < 2147483647) ∧ N O) := by
  simp only [rSetD, h]; simp
theorem rSet_r {N : Ow → Prop} {k : Nat} (h : O p = some (.lst xs)) (h' : ixN xs.length i = some k) : rSetD (.ref p) (.int i) d O N = N (updO O p (.lst (xs.set k d))) := by
  simp only [rSetD, h, h']
end
theorem sz_small {n : Nat} (h : n ≤ 1000000) : n ≤ sizeLine := by have := sizeLine_eq; omega
theorem notX {b : Bool} : (true ^^ b) = !b := Bool.true_xor b
theorem notX' {b : Bool} : (false ^^ b) = b := Bool.false_xor b
/-- patterns -/
theorem patD_nm {i : Nat} {d : D} {ρ : DEnv} : patD (.nm i) d ρ = some (ρ.set i (some d)) := by simp only [patD]
theorem patD_tp {ps : List Pat} {ds : List D} {ρ : DEnv} : patD (.tp ps) (.tup ds) ρ = patDs ps ds ρ := by simp only [patD]
theorem patDs_nil {ρ : DEnv} : patDs [] [] ρ = some ρ := by simp only [patDs]
theorem patDs_cons {p : Pat} {ps : List Pat} {d : D} {ds : List D} {ρ : DEnv} : patDs (p :: ps) (d :: ds) ρ = (patD p d ρ).bind (patDs ps ds) := by simp only [patDs]
/-- a walk that keeps a word -/
theorem forD_inv {p : Pat} {gb : GS} {R : DEnds} (I : DEnv → Ow → Prop) : ∀ (ds : List D) (ρ : DEnv) (O : Ow), I ρ O → (∀ ρ O, I ρ O → R.nx ρ O) →
    (∀ d ∈ ds, ∀ ρ O, I ρ O → ∀ N, (∀ ρ O, I ρ O → N ρ O) → patGet (patD p d ρ) fun ρ1 => gb { R with nx := N, ct := N, bk := R.nx } ρ1 O) → forD p gb R ds ρ O
  | [], ρ, O, h, hd, _ => hd ρ O h
  | d :: ds, ρ, O, h, hd, hs => by
    have q := hs d List.mem_cons_self ρ O h (forD p gb R ds) fun ρ' O' h' => forD_inv I ds ρ' O' h' hd fun d' hm => hs d' (List.mem_cons_of_mem _ hm)
    unfold forD
    exact q

theorem isi_i_int {i : Int} {O : Ow} {Q : VD} : rIsiD [(.int i), .ty "int"] O Q = Q (.bl true) O := by simp [rIsiD, insCl, insTy, tyNm, insOf]
theorem isi_i_bool {i : Int} {O : Ow} {Q : VD} : rIsiD [(.int i), .ty "bool"] O Q = Q (.bl false) O := by simp [rIsiD, insCl, insTy, tyNm, insOf]
theorem isi_i_str {i : Int} {O : Ow} {Q : VD} : rIsiD [(.int i), .ty "str"] O Q = Q (.bl false) O := by simp [rIsiD, insCl, insTy, tyNm, insOf]
theorem isi_i_tuple {i : Int} {O : Ow} {Q : VD} : rIsiD [(.int i), .ty "tuple"] O Q = Q (.bl false) O := by simp [rIsiD, insCl, insTy, tyNm, insOf]
theorem isi_i_list {i : Int} {O : Ow} {Q : VD} : rIsiD [(.int i), .ty "list"] O Q = Q (.bl false) O := by simp [rIsiD, insCl, insTy, tyNm, insOf]
theorem isi_i_dict {i : Int} {O : Ow} {Q : VD} : rIsiD [(.int i), .ty "dict"] O Q = Q (.bl false) O := by simp [rIsiD, insCl, insTy, tyNm, insOf]
theorem isi_b_int {k : Bool} {O : Ow} {Q : VD} : rIsiD [(.bl k), .ty "int"] O Q = Q (.bl true) O := by simp [rIsiD, insCl, insTy, tyNm, insOf]
theorem isi_b_bool {k : Bool} {O : Ow} {Q : VD} : rIsiD [(.bl k), .ty "bool"] O Q = Q (.bl true) O := by simp [rIsiD, insCl, insTy, tyNm, insOf]
theorem isi_b_str {k : Bool} {O : Ow} {Q : VD} : rIsiD [(.bl k), .ty "str"] O Q = Q (.bl false) O := by simp [rIsiD, insCl, insTy, tyNm, insOf]
theorem isi_b_tuple {k : Bool} {O : Ow} {Q : VD} : rIsiD [(.bl k), .ty "tuple"] O Q = Q (.bl false) O := by simp [rIsiD, insCl, insTy, tyNm, insOf]
theorem isi_b_list {k : Bool} {O : Ow} {Q : VD} : rIsiD [(.bl k), .ty "list"] O Q = Q (.bl false) O := by simp [rIsiD, insCl, insTy, tyNm, insOf]
theorem isi_b_dict {k : Bool} {O : Ow} {Q : VD} : rIsiD [(.bl k), .ty "dict"] O Q = Q (.bl false) O := by simp [rIsiD, insCl, insTy, tyNm, insOf]
theorem isi_s_int {a : Str} {O : Ow} {Q : VD} : rIsiD [(.str a), .ty "int"] O Q = Q (.bl false) O := by simp [rIsiD, insCl, insTy, tyNm, insOf]
theorem isi_s_bool {a : Str} {O : Ow} {Q : VD} : rIsiD [(.str a), .ty "bool"] O Q = Q (.bl false) O := by simp [rIsiD, insCl, insTy, tyNm, insOf]
theorem isi_s_str {a : Str} {O : Ow} {Q : VD} : rIsiD [(.str a), .ty "str"] O Q = Q (.bl true) O := by simp [rIsiD, insCl, insTy, tyNm, insOf]
theorem isi_s_tuple {a : Str} {O : Ow} {Q : VD} : rIsiD [(.str a), .ty "tuple"] O Q = Q (.bl false) O := by simp [rIsiD, insCl, insTy, tyNm, insOf]
theorem isi_s_list {a : Str} {O : Ow} {Q : VD} : rIsiD [(.str a), .ty "list"] O Q = Q (.bl false) O := by simp [rIsiD, insCl, insTy, tyNm, insOf]
theorem isi_s_dict {a : Str} {O : Ow} {Q : VD} : rIsiD [(.str a), .ty "dict"] O Q = Q (.bl false) O := by simp [rIsiD, insCl, insTy, tyNm, insOf]
theorem isi_t_int {xs : List D} {O : Ow} {Q : VD} : rIsiD [(.tup xs), .ty "int"] O Q = Q (.bl false) O := by simp [rIsiD, insCl, insTy, tyNm, insOf]
theorem isi_t_bool {xs : List D} {O : Ow} {Q : VD} : rIsiD [(.tup xs), .ty "bool"] O Q = Q (.bl false) O := by simp [rIsiD, insCl, insTy, tyNm, insOf]
theorem isi_t_str {xs : List D} {O : Ow} {Q : VD} : rIsiD [(.tup xs), .ty "str"] O Q = Q (.bl false) O := by simp [rIsiD, insCl, insTy, tyNm, insOf]
theorem isi_t_tuple {xs : List D} {O : Ow} {Q : VD} : rIsiD [(.tup xs), .ty "tuple"] O Q = Q (.bl true) O := by simp [rIsiD, insCl, insTy, tyNm, insOf]
theorem isi_t_list {xs : List D} {O : Ow} {Q : VD} : rIsiD [(.tup xs), .ty "list"] O Q = Q (.bl false) O := by simp [rIsiD, insCl, insTy, tyNm, insOf]
theorem isi_t_dict {xs : List D} {O : Ow} {Q : VD} : rIsiD [(.tup xs), .ty "dict"] O Q = Q (.bl false) O := by simp [rIsiD, insCl, insTy, tyNm, insOf]
theorem isi_l_int {xs : List D} {O : Ow} {Q : VD} : rIsiD [(.lst xs), .ty "int"] O Q = Q (.bl false) O := by simp [rIsiD, insCl, insTy, tyNm, insOf]
theorem isi_l_bool {xs : List D} {O : Ow} {Q : VD} : rIsiD [(.lst xs), .ty "bool"] O Q = Q (.bl false) O := by simp [rIsiD, insCl, insTy, tyNm, insOf]
theorem isi_l_str {xs : List D} {O : Ow} {Q : VD} : rIsiD [(.lst xs), .ty "str"] O Q = Q (.bl false) O := by simp [rIsiD, insCl, insTy, tyNm, insOf]
theorem isi_l_tuple {xs : List D} {O : Ow} {Q : VD} : rIsiD [(.lst xs), .ty "tuple"] O Q = Q (.bl false) O := by simp [rIsiD, insCl, insTy, tyNm, insOf]
theorem isi_l_list {xs : List D} {O : Ow} {Q : VD} : rIsiD [(.lst xs), .ty "list"] O Q = Q (.bl true) O := by simp [rIsiD, insCl, insTy, tyNm, insOf]
theorem isi_l_dict {xs : List D} {O : Ow} {Q : VD} : rIsiD [(.lst xs), .ty "dict"] O Q = Q (.bl false) O := by simp [rIsiD, insCl, insTy, tyNm, insOf]
theorem isi_n_int  {O : Ow} {Q : VD} : rIsiD [.non, .ty "int"] O Q = Q (.bl false) O := by simp [rIsiD, insCl, insTy, tyNm, insOf]
theorem isi_n_bool  {O : Ow} {Q : VD} : rIsiD [.non, .ty "bool"] O Q = Q (.bl false) O := by simp [rIsiD, insCl, insTy, tyNm, insOf]
theorem isi_n_str  {O : Ow} {Q : VD} : rIsiD [.non, .ty "str"] O Q = Q (.bl false) O := by simp [rIsiD, insCl, insTy, tyNm, insOf]
theorem isi_n_tuple  {O : Ow} {Q : VD} : rIsiD [.non, .ty "tuple"] O Q = Q (.bl false) O := by simp [rIsiD, insCl, insTy, tyNm, insOf]
theorem isi_n_list  {O : Ow} {Q : VD} : rIsiD [.non, .ty "list"] O Q = Q (.bl false) O := by simp [rIsiD, insCl, insTy, tyNm, insOf]
theorem isi_n_dict  {O : Ow} {Q : VD} : rIsiD [.non, .ty "dict"] O Q = Q (.bl false) O := by simp [rIsiD, insCl, insTy, tyNm, insOf]
theorem isi_d_int  {O : Ow} {Q : VD} : rIsiD [.edic, .ty "int"] O Q = Q (.bl false) O := by simp [rIsiD, insCl, insTy, tyNm, insOf]
theorem isi_d_bool  {O : Ow} {Q : VD} : rIsiD [.edic, .ty "bool"] O Q = Q (.bl false) O := by simp [rIsiD, insCl, insTy, tyNm, insOf]
theorem isi_d_str  {O : Ow} {Q : VD} : rIsiD [.edic, .ty "str"] O Q = Q (.bl false) O := by simp [rIsiD, insCl, insTy, tyNm, insOf]
theorem isi_d_tuple  {O : Ow} {Q : VD} : rIsiD [.edic, .ty "tuple"] O Q = Q (.bl false) O := by simp [rIsiD, insCl, insTy, tyNm, insOf]
theorem isi_d_list  {O : Ow} {Q : VD} : rIsiD [.edic, .ty "list"] O Q = Q (.bl false) O := by simp [rIsiD, insCl, insTy, tyNm, insOf]
theorem isi_d_dict  {O : Ow} {Q : VD} : rIsiD [.edic, .ty "dict"] O Q = Q (.bl true) O := by simp [rIsiD, insCl, insTy, tyNm, insOf]
end Kf
namespace Kf
open PySem PySem.Spec L2
open PyProof.Rows hiding St
variable {M : MX}

/-! ### kinds -/
inductive Kd where
  | mk (m : Str) | one | to (a b : Kd) | both (a b : Kd)
  deriving DecidableEq, Inhabited
def dK : Kd → D
  | .mk m => .tup [.str "mark", .str m]
  | .one => .tup [.str "one"]
  | .to a b => .tup [.str "to", dK a, dK b]
  | .both a b => .tup [.str "both", dK a, dK b]
def Kd.leaves : Kd → Nat
  | .mk _ => 1
  | .one => 1
  | .to a b => a.leaves + b.leaves
  | .both a b => a.leaves + b.leaves
def Kd.depth : Kd → Nat
  | .mk _ => 0
  | .one => 0
  | .to a b => max a.depth b.depth + 1
  | .both a b => max a.depth b.depth + 1
def Kd.ok : Kd → Bool
  | .mk m => PyData.strOk m
  | .one => true
  | .to a b => a.ok && b.ok
  | .both a b => a.ok && b.ok
theorem so_mark : PyData.strOk "mark" = true := by decide +kernel
theorem so_one : PyData.strOk "one" = true := by decide +kernel
theorem so_to : PyData.strOk "to" = true := by decide +kernel
theorem so_both : PyData.strOk "both" = true := by decide +kernel
theorem isPy_dK : ∀ k : Kd, isPy (dK k) = k.ok
  | .mk m => by simp [dK, isPy, isPys, Kd.ok, so_mark]
  | .one => by simp [dK, isPy, isPys, Kd.ok, so_one]
  | .to a b => by simp [dK, isPy, isPys, Kd.ok, so_to, isPy_dK a, isPy_dK b]
  | .both a b => by simp [dK, isPy, isPys, Kd.ok, so_both, isPy_dK a, isPy_dK b]
theorem dpT (ds : List D) : dp (.tup ds) = PyData.depthAll (toPys ds) + 1 := by simp [dp, toPy, PyData.depth]
theorem dpL (ds : List D) : dp (.lst ds) = PyData.depthAll (toPys ds) + 1 := by simp [dp, toPy, PyData.depth]
theorem dpC (d : D) (ds : List D) : PyData.depthAll (toPys (d :: ds)) = max (dp d) (PyData.depthAll (toPys ds)) := by simp [dp, toPys, PyData.depthAll]
theorem dpN : PyData.depthAll (toPys []) = 0 := by simp [toPys, PyData.depthAll]
theorem dpS (x : Str) : dp (.str x) = 0 := by simp [dp, toPy, PyData.depth]
theorem dpI (x : Int) : dp (.int x) = 0 := by simp [dp, toPy, PyData.depth]
theorem dpB (x : Bool) : dp (.bl x) = 0 := by simp [dp, toPy, PyData.depth]
theorem dpO : dp .non = 0 := by simp [dp, toPy, PyData.depth]
theorem dp_dK : ∀ k : Kd, dp (dK k) = k.depth + 1
  | .mk m => by simp [dK, dpT, dpC, dpN, dpS, Kd.depth]
  | .one => by simp [dK, dpT, dpC, dpN, dpS, Kd.depth]
  | .to a b => by simp [dK, dpT, dpC, dpN, dpS, Kd.depth, dp_dK a, dp_dK b]
  | .both a b => by simp [dK, dpT, dpC, dpN, dpS, Kd.depth, dp_dK a, dp_dK b]
theorem sd_tb : decide (Str.ofString "to" = Str.ofString "both") = false := by decide +kernel
theorem sd_bt : decide (Str.ofString "both" = Str.ofString "to") = false := by decide +kernel
/-- == of kinds is = -/
theorem deq_K : ∀ a b : Kd, deq (dK a) (dK b) = decide (a = b) := by
  intro a
  induction a with
  | mk m => intro b; cases b <;> simp [dK, deq_t, deqs_cc, deqs_nn, deqs_nc, deqs_cn, deq_s]
  | one => intro b; cases b <;> simp [dK, deq_t, deqs_cc, deqs_nn, deqs_nc, deqs_cn, deq_s]
  | to a c ih1 ih2 =>
    intro b
    cases b with
    | both _ _ => simp only [dK, deq_t, deqs_cc, deq_s, sd_tb]; simp
    | _ => simp [dK, deq_t, deqs_cc, deqs_nn, deqs_nc, deqs_cn, deq_s, ih1, ih2]
  | both a c ih1 ih2 =>
    intro b
    cases b with
    | to _ _ => simp only [dK, deq_t, deqs_cc, deq_s, sd_bt]; simp
    | _ => simp [dK, deq_t, deqs_cc, deqs_nn, deqs_nc, deqs_cn, deq_s, ih1, ih2]
/-- == against the empty list -/
theorem deq_nil (xs : List D) : deq (.lst xs) (.lst []) = xs.isEmpty := by
  cases xs <;> simp [deq_l, deqs_nn, deqs_cn]
theorem rEq_nil {neg : Bool} {x : D} {xs : List D} {O : Ow} {Q : VD} (hx : deref O x = .lst xs) (h : isPys xs = true) (hd : dp (.lst xs) ≤ 190) : rEqD neg x (.lst []) O Q = Q (.bl (neg ^^ xs.isEmpty)) O := by
  rw [rEq_d (by rw [hx]; simpa only [isPy] using h) (by simp only [deref, isPy, isPys]) (by rw [hx]; exact hd), hx, deref_lst, deq_nil]
theorem rEq_nilA {neg : Bool} {x : D} {xs : List D} {O : Ow} {Q : VD} (hx : deref O x = .lst xs) (h : isPys xs = true) : rEqD neg x (.lst []) O Q = Q (.bl (neg ^^ xs.isEmpty)) O := by
  rw [rEq_dr (by rw [hx]; simpa only [isPy] using h) (by simp only [deref, isPy, isPys]) (by simp [deref, dp, toPy, toPys, PyData.depth, PyData.depthAll]), hx, deref_lst, deq_nil]
theorem rEq_i2 {neg : Bool} {a b c d : Int} {O : Ow} {Q : VD} : rEqD neg (.lst [.int a, .int b]) (.lst [.int c, .int d]) O Q = Q (.bl (neg ^^ (decide (a = c) && decide (b = d)))) O := by
  rw [rEq_d (by simp [deref, isPy, isPys]) (by simp [deref, isPy, isPys]) (by simp [deref, dpL, dpC, dpN, dpI])]
  simp [deref, deq_l, deqs_cc, deqs_nn, deq_i, deq_b]
theorem rEq_b2 {neg : Bool} {a b c d : Bool} {O : Ow} {Q : VD} : rEqD neg (.lst [.bl a, .bl b]) (.lst [.bl c, .bl d]) O Q = Q (.bl (neg ^^ (decide (a = c) && decide (b = d)))) O := by
  rw [rEq_d (by simp [deref, isPy, isPys]) (by simp [deref, isPy, isPys]) (by simp [deref, dpL, dpC, dpN, dpB])]
  simp [deref, deq_l, deqs_cc, deqs_nn, deq_i, deq_b]

/-! ### the law's pool -/
theorem atI_some {α : Type} {xs : List α} {k : Int} (h0 : 0 ≤ k) (h1 : k < xs.length) : ∃ v, atI xs k = some v ∧ v ∈ xs := by
  have hk : k.toNat < xs.length := by omega
  have e : k = ((k.toNat : Nat) : Int) := by omega
  have q : atI xs ((k.toNat : Nat) : Int) = some xs[k.toNat] := atI_nat (List.getElem?_eq_getElem hk)
  rw [← e] at q
  exact ⟨xs[k.toNat], q, List.getElem_mem hk⟩
theorem poolMod (x : Int) : 0 ≤ x % 2147483647 ∧ x % 2147483647 < 2147483647 := ⟨Int.emod_nonneg _ (by decide), Int.emod_lt_of_pos _ (by decide)⟩
theorem poolNum (c : Int) {k : Int} (h0 : 0 ≤ k) (h1 : k ≤ 1000) : CPow (c % 2147483629 + 104729 * k * k + 11) 3 := by
  have h2 : k * k ≤ 1000 * 1000 := Int.mul_le_mul h1 h1 h0 (by decide)
  have h3 : 0 ≤ k * k := Int.mul_nonneg h0 h0
  have h4 : 0 ≤ c % 2147483629 := Int.emod_nonneg _ (by decide)
  have h5 : c % 2147483629 < 2147483629 := Int.emod_lt_of_pos _ (by decide)
  refine ⟨by decide, by decide, ?_⟩
  rw [Int.mul_assoc]
  omega
def spPool : DSp := fun ds O R _ => ∃ (ns : List Int) (k : Int), ds = [.scr ns, .int k] ∧ 0 ≤ k ∧ k ≤ 1000 ∧ ∀ p, O p = none → R (.ref p) (updO O p .pool)
def spTake : DSp := fun ds O R _ => ∃ (p : Addr) (m : Int), ds = [.ref p, .int m] ∧ O p = some .pool ∧ 0 < m ∧ m < 1329227995784915872903807060280344576 ∧ ∀ r : Int, 0 ≤ r → r < m → R (.int r) O
theorem take_of {p : Addr} {m : Int} {O : Ow} {R : VD} {RE : XD} (hp : O p = some .pool) (h0 : 0 < m) (h1 : m < 1329227995784915872903807060280344576) (h : ∀ r : Int, 0 ≤ r → r < m → R (.int r) O) : spTake [.ref p, .int m] O R RE := ⟨p, m, rfl, hp, h0, h1, h⟩
theorem mem_rangeD {lo : Int} {n : Nat} {d : D} (h : d ∈ rangeD lo n) : ∃ i : Nat, i < n ∧ d = .int (lo + i) := by
  unfold rangeD at h
  obtain ⟨i, h1, rfl⟩ := List.mem_map.mp h
  exact ⟨i, List.mem_range.mp h1, rfl⟩
/-- the law's own loop: how often it goes -/
theorem rngBound (n N : Nat) (hN : N ≤ 1000) (h1 : 1 ≤ N) : (-2 ^ 62 ≤ if (if (N : Int) < n then (N : Int) else n) > 1 then if (N : Int) < n then (N : Int) else n else 1) ∧
    (if (if (N : Int) < n then (N : Int) else n) > 1 then if (N : Int) < n then (N : Int) else n else 1) < 2 ^ 62 ∧
    (if (if (N : Int) < n then (N : Int) else n) > 1 then if (N : Int) < n then (N : Int) else n else 1).toNat ≤ N := by
  refine ⟨?_, ?_, ?_⟩ <;> (repeat' split) <;> omega
end Kf
namespace Kf
open PySem PySem.Spec L2
open PyProof.Rows hiding St
variable {M : MX}

section
variable {X : Cx}
/-! ### more methods -/
def rJoinD : RMD := fun x ds O Q => match x, ds with
  | .str a, [y] => match deref O y with
    | .lst ys => match asStrs ys with
      | some ts => (ts.map (·.length)).sum + ts.length * a.length ≤ 16777216 ∧ Q (.str (Str.join a ts)) O
      | none => False
    | .tup ys => match asStrs ys with
      | some ts => (ts.map (·.length)).sum + ts.length * a.length ≤ 16777216 ∧ Q (.str (Str.join a ts)) O
      | none => False
    | _ => False
  | _, _ => False
def rSplitD : RMD := fun x ds O Q => match x, ds with
  | .str a, [.str b] => (b.length == 0) = false ∧ a.length + 2 ≤ sizeLine ∧ Q (.lst ((Txt.split a b).map .str)) O
  | _, _ => False
/-- xs.index(y): the first place of an equal one -/
def rIndexD : RMD := fun x ds O Q => match ds with
  | [y] => match deref O x with
    | .lst xs => isPys xs = true ∧ isPy (deref O y) = true ∧ dp (.lst xs) ≤ 64 ∧ dp (deref O y) ≤ 64 ∧ match xs.findIdx? (fun z => deq z (deref O y)) with
      | some j => Q (.int (j : Nat)) O
      | none => False
    | _ => False
  | _ => False
theorem toPys_get {xs : List D} {j : Nat} : (toPys xs)[j]? = xs[j]?.map toPy := by rw [toPys_map, List.getElem?_map]
theorem md_index (hu : X.A.units + 200 < cLine) : MtD M X "list.index" rIndexD := by
  refine mtD_of fun F P H O x xs dx ds R Q g r1 r2 q po => ?_
  unfold rIndexD at q
  split at q <;> first | exact q.elim | skip
  rename_i y
  obtain ⟨v, rfl, r2'⟩ := r2.one'
  have h1 := g.deref r1
  have h2 := g.deref r2'
  revert q h1
  generalize Kf.deref O dx = ex
  intro q h1
  cases ex <;> first | exact q.elim | skip
  rename_i zs
  obtain ⟨q1, q2, q3, q4, q5⟩ := q
  cases e : zs.findIdx? (fun z => deq z (Kf.deref O y)) with
  | none => rw [e] at q5; exact q5.elim
  | some j =>
    rw [e] at q5
    obtain ⟨c, ws, rfl, h3, h4⟩ := h1
    obtain ⟨hj, hp, hn⟩ := List.findIdx?_eq_some_iff_getElem.mp e
    refine ⟨_, mt_indexD (by omega), c, v, _, toPys zs, j, toPy zs[j], rfl, rfl, .lst (SqL.of h3) (RepAll.dp g.fz zs ws q1 h4), h2.dp g.fz q2, ?_, ?_, ?_, hp, fun m z' hm hz => ?_, po.at g q5 (by simp only [Rep])⟩
    · have l1 : (PyData.list (toPys zs)).canLay0 = true := by simp only [PyData.canLay0]; exact isPys_lay zs q1
      have l2 : (PyData.list (toPys zs)).depth ≤ 64 := by have := q3; simpa only [dp, toPy] using this
      simp only [SeqAt.shaped, l1, l2, decide_true, Bool.and_self]
    · have l2 : (toPy (Kf.deref O y)).depth ≤ 64 := q4
      simp only [SeqAt.shaped, isPy_lay _ q2, l2, decide_true, Bool.and_self]
    · rw [toPys_get, List.getElem?_eq_getElem hj]; rfl
    · rw [toPys_get] at hz
      obtain ⟨z, hz1, rfl⟩ := Option.map_eq_some_iff.mp hz
      have hml : m < zs.length := by omega
      rw [List.getElem?_eq_getElem hml] at hz1
      cases hz1
      have := hn m hm
      simpa [deq] using this
end
section
variable {O : Ow} {Q : VD} {i j : Int} {a b : Str} {xs ys : List D} {d e x y z u : D} {p : Addr}
theorem rJoin_l {ts : List Str} (h : asStrs xs = some ts) : rJoinD (.str a) [.lst xs] O Q = ((ts.map (·.length)).sum + ts.length * a.length ≤ 16777216 ∧ Q (.str (Str.join a ts)) O) := by simp only [rJoinD, deref, h]
theorem rJoin_m {ts : List Str} : rJoinD (.str a) [.lst (ts.map .str)] O Q = ((ts.map (·.length)).sum + ts.length * a.length ≤ 16777216 ∧ Q (.str (Str.join a ts)) O) := rJoin_l (asStrs_map ts)
theorem rSplit_s : rSplitD (.str a) [.str b] O Q = ((b.length == 0) = false ∧ a.length + 2 ≤ sizeLine ∧ Q (.lst ((Txt.split a b).map .str)) O) := rfl
theorem rIndex_l {j : Nat} (h1 : isPys xs = true) (h2 : isPy (deref O y) = true) (h3 : dp (.lst xs) ≤ 64) (h4 : dp (deref O y) ≤ 64) (h : xs.findIdx? (fun z => deq z (deref O y)) = some j) : rIndexD (.lst xs) [y] O Q = Q (.int (j : Nat)) O := by
  simp only [rIndexD, deref_lst, h1, h2, h3, h4, h, true_and]
end
/-! ### walks -/
/-! ### what is owned may be forgotten -/
def Sub (O O' : Ow) : Prop := ∀ a c, O a = some c → O' a = some c
theorem Sub.refl (O : Ow) : Sub O O := fun _ _ h => h
theorem Sub.trans {O O1 O2 : Ow} (a : Sub O O1) (b : Sub O1 O2) : Sub O O2 := fun p c h => b p c (a p c h)
theorem sub_upd {O : Ow} {p : Addr} {c : Cell} (h : O p = none) : Sub O (updO O p c) := fun a d e => by
  have ne : a ≠ p := fun q => by rw [q, h] at e; cases e
  rw [updO_ne ne]; exact e
theorem Gd.sub {K : PySem.W.Frag} {F P H : Hp} {O O' : Ow} (g : Gd M K F O' P H) (s : Sub O O') : Gd M K F O P H := ⟨g.fz, fun a c e => g.ow a c (s a c e), g.as, g.rl, g.nt⟩
/-- at the end what is owned besides is forgotten -/
def VG (R : VD) : VD := fun d O' => ∃ O, Sub O O' ∧ R d O
section
variable {P : Program} {w : World} {K : PySem.W.Frag} {mg : Str → Option Value} {base : Heap}
theorem fn_dG {x qual : Str} {st : Stmt} {f : Addr} {fd : FuncData} {N ps : List Str} {k : Nat} {dsp : DSp} {g : GS} (F : Fun K x qual st f fd) (S : FnScope N ps (defScope st)) (len : ∀ ds O R RE, dsp ds O R RE → ds.length = ps.length)
    (hder : ∀ (cdv : Value) (A : Around) (outer : List Env) (s : Shared) (H : Hp) (E : XK), Room k (A.deeper (envOfC qual (defScope st) s.heap.objs.size f cdv)) →
      DSs MT (cxOf CX0 P w K mg base N qual (defScope st) f cdv A outer s H E).nox (defBody st) g)
    (hread : ∀ ds O R RE, dsp ds O R RE → g { nx := fun _ O' => VG R .non O', rt := VG R } (startD N ds) O) : FnOk P w K mg base CX0 (k + 1) f fd ps (liftSp K dsp) := by
  refine F.ok S (fun vs H Q E h => ?_) fun cdv A outer s H vs Q E hr h => ?_
  · obtain ⟨F, O, P, ds, R, RE, g, r, q, _⟩ := h
    rw [← r.length]; exact len ds O R RE q
  · obtain ⟨F, O, P, ds, R, RE, gd, r, q, po, _⟩ := h
    refine ⟨_, hder cdv A outer s H E hr, F, O, P, startD N ds, { nx := fun _ O' => VG R .non O', rt := VG R }, gd, ?_, hread ds O R RE q, ⟨fun ρ O' F' H' σ q1 s1 g1 _ => ?_, fun d O' F' H' v q1 s1 g1 r1 => ?_, fun _ _ _ _ _ z => z.elim, fun _ _ _ _ _ z => z.elim⟩⟩
    · unfold startD L2.start
      rw [r.length]
      exact envOk_start _ r
    · obtain ⟨O2, s2, q2⟩ := q1
      exact po .non O2 F' H' .non q2 s1 (g1.sub s2) (by simp only [Rep])
    · obtain ⟨O2, s2, q2⟩ := q1
      exact po d O2 F' H' v q2 s1 (g1.sub s2) r1
end
theorem VG.at {R : VD} {d : D} {O : Ow} (h : R d O) : VG R d O := ⟨O, Sub.refl _, h⟩
theorem VG.up {R : VD} {d : D} {O : Ow} {p : Addr} {c : Cell} (h : O p = none) (q : R d O) : VG R d (updO O p c) := ⟨O, sub_upd h, q⟩
theorem rangeD_get {lo : Int} {n i : Nat} {d : D} (h : (rangeD lo n)[i]? = some d) : i < n ∧ d = .int (lo + (i : Nat)) := by
  unfold rangeD at h
  rw [List.getElem?_map] at h
  obtain ⟨j, e1, rfl⟩ := Option.map_eq_some_iff.mp h
  have hi : i < n := by
    obtain ⟨h, _⟩ := List.getElem?_eq_some_iff.mp e1
    simpa using h
  rw [List.getElem?_range hi] at e1
  cases e1
  exact ⟨hi, rfl⟩
theorem rangeD_length (lo : Int) (n : Nat) : (rangeD lo n).length = n := by unfold rangeD; rw [List.length_map, List.length_range]
theorem rSl_l {xs : List D} {lo hi : Option Int} {O : Ow} {Q : VD} : rSlD (.lst xs) lo hi O Q = Q (.lst (cut xs lo hi)) O := rfl
theorem rSl_t {xs : List D} {lo hi : Option Int} {O : Ow} {Q : VD} (h : ¬ (HT.sIx xs.length 0 lo = 0 ∧ HT.sIx xs.length xs.length hi = xs.length)) : rSlD (.tup xs) lo hi O Q = Q (.tup (cut xs lo hi)) O := by simp only [rSlD, deref, h, not_false_eq_true, true_and]
end Kf
namespace Kf
open PySem PySem.Spec L2
open PyProof.Rows hiding St
variable {M : MX}
/-! ### t < u of pairs (a number, a truth) -/
section
variable {X : Cx}
end
end Kf
namespace Kf
open PySem PySem.Spec L2
open PyProof.Rows hiding St
variable {M : MX}

/-! ### exceptions: what is wished of one, over data -/
abbrev XW := Value → Option (List (Str × D)) → DEnv → Ow → Prop
def PostW (K : PySem.W.Frag) (F P : Hp) (RX : XW) (W : WX) : Prop := ∀ cls fs ρ O' F' H' dd σ, RX cls fs ρ O' → Same F F' → Gd MT K F' O' P H' → XdOk K F' H' fs dd → EnvOk K F' ρ σ → W cls dd σ H'
def mxw (K : PySem.W.Frag) (RX : XW) (W : WX) : MX where
  rel F P := ∃ P0, Same P0 P ∧ PostW K F P0 RX W
  mono := fun ⟨P0, s0, po⟩ s s' => ⟨P0, s0.trans s', fun cls fs ρ O' F' H' dd σ q s2 => po cls fs ρ O' F' H' dd σ q (s.trans s2)⟩
theorem Gd.wish {K : PySem.W.Frag} {F P H : Hp} {O : Ow} {RX : XW} {W : WX} {cls : Value} {fs : Option (List (Str × D))} {ρ : DEnv} {dd : Option Addr} {σ : L2.St}
    (g : Gd (mxw K RX W) K F O P H) (q : RX cls fs ρ O) (x : XdOk K F H fs dd) (en : EnvOk K F ρ σ) : W cls dd σ H := by
  obtain ⟨P0, s0, po⟩ := g.rl
  exact po cls fs ρ O F H dd σ q (Same.refl _) (g.mt.less s0) x en
/-- of nothing -/
abbrev RX0 : XW := fun _ _ _ _ => False

/-- an own class of exceptions without an __init__ of its own -/
structure ExN (K : PySem.W.Frag) (mg : Str → Option Value) (x : Str) (C : Addr) : Prop where
  g : mg x = some (.ref C)
  ex : PySem.W.excIn K C [.type "ValueError", .type "Exception", .type "BaseException", .type "object"] "ValueError.__new__" = true
  kp : PySem.W.keepIn K (.ref C) = true
  sb : PySem.W.subIn K (.ref C) (.type "BaseException") = some true
  ty : PySem.W.typeIn K (.ref C) = some (.type "type")

section
variable {X : Cx} {RX : XW} {W : WX} {x m : Str} {C : Addr} {j : Nat} {p p2 pos pos' : Pos}
def gRaise (RX : XW) (cls : Value) : GS := fun _ ρ O => RX cls none ρ O
theorem ds_raise (N : ExN X.K X.mg x C) (hc : X.calm = true) (tk : Takes X W) (hg : Gl X x) (hdb : (x == ("__debug__" : Str)) = false := by decide) :
    DS (mxw X.K RX W) X (.Raise (some (.Call (.Name x p) [.Constant (.str m) j p2] [] pos)) none pos') (gRaise RX (.ref C)) :=
  psMono (ps_raise hc tk (pmk_own PySem.F.excBase_ValueError N.ex N.g N.kp (raises_own N.sb N.ty) hg hdb)) fun D σ H h => by
    obtain ⟨F, O, P, ρ, R, g, en, q, po⟩ := h
    exact g.wish q rfl en
end
section
variable {X : Cx} {RX : XW} {W : WX} {e : Expr} {es : List Expr} {fr : FA} {k : Nat} {f : Addr} {fd : FuncData} {ps : List Str} {dsp : DSp} {x : Str} {st : Stmt} {p pos : Pos}
/-- a call that may raise -/
def fCallX (dsp : DSp) (RX : XW) (fr : FA) : FE := fun ρ O Q => fr ρ O fun ds O1 => dsp ds O1 Q fun cls fs O' => RX cls fs ρ O'
end
section
variable {P : Program} {w : World} {K : PySem.W.Frag} {mg : Str → Option Value} {base : Heap}
/-- at the end what is owned besides is forgotten -/
def XG (RE : XD) : XW := fun cls fs _ O' => ∃ O, Sub O O' ∧ RE cls fs O
end

/-! ### try -/
end Kf
namespace Kf
open PySem PySem.Spec L2
open PyProof.Rows hiding St
variable {M : MX}

def liftSW (K : PySem.W.Frag) (W : WX) (g : XW → GS) : TS := fun D σ H => ∃ RX, liftS (mxw K RX W) K (g RX) D σ H
theorem PostS.re {M' : MX} {K : PySem.W.Frag} {F P H : Hp} {O : Ow} {R : DEnds} {D : Ends} (po : PostS M K F P R D) (g : Gd M K F O P H) : PostS M' K F P R D :=
  ⟨fun ρ O' F' H' σ q s g' en => po.nx ρ O' F' H' σ q s (g'.re (M.mono g.rl s (Same.refl _))) en, fun d O' F' H' v q s g' r => po.rt d O' F' H' v q s (g'.re (M.mono g.rl s (Same.refl _))) r,
    fun ρ O' F' H' σ q s g' en => po.bk ρ O' F' H' σ q s (g'.re (M.mono g.rl s (Same.refl _))) en, fun ρ O' F' H' σ q s g' en => po.ct ρ O' F' H' σ q s (g'.re (M.mono g.rl s (Same.refl _))) en⟩
/-- what is wished outside -/
def Outs (M : MX) (K : PySem.W.Frag) (RXo : XW) (Wo : WX) : Prop := ∀ F O P H cls fs ρ dd σ, Gd M K F O P H → RXo cls fs ρ O → XdOk K F H fs dd → EnvOk K F ρ σ → Wo cls dd σ H
theorem outs0 {K : PySem.W.Frag} : Outs M K RX0 (fun _ _ _ _ => False) := fun _ _ _ _ _ _ _ _ _ _ z _ _ => z
section
variable {X : Cx} {x n : Str} {c : Value} {i : Nat} {body suite : List Stmt} {b₀ : Stmt} {np pos pos' : Pos} {gb : XW → GS} {gs : Addr → Value → Option (List (Str × D)) → GS} {RXo : XW} {Wo : WX}
theorem pss_sw {W : WX} (h : ∀ RX, DSs (mxw X.K RX W) X body (gb RX)) : PSs X body (liftSW X.K W gb) := ⟨fun pins s σ H D I ⟨RX, q⟩ => (h RX).run pins s σ H D I q⟩
/-- the ends with slot i empty -/
def endsNo (i : Nat) (R : DEnds) : DEnds := { nx := fun ρ O => R.nx (ρ.set i none) O, rt := R.rt, bk := fun ρ O => R.bk (ρ.set i none) O, ct := fun ρ O => R.ct (ρ.set i none) O }
def xAs (K : PySem.W.Frag) (c : Value) (i : Nat) (gs : Addr → Value → Option (List (Str × D)) → GS) (RXo : XW) (R : DEnds) : XW := fun cls fs ρ O => ∃ b, PySem.W.exmOne K cls c = some b ∧
  (b = true → ∀ a, O a = none → gs a cls fs (endsNo i R) (ρ.set i (some (.ref a))) O) ∧ (b = false → RXo cls fs ρ O)
def xOnly (K : PySem.W.Frag) (c : Value) (gs : Addr → Value → Option (List (Str × D)) → GS) (RXo : XW) (R : DEnds) : XW := fun cls fs ρ O => ∃ b, PySem.W.exmOne K cls c = some b ∧
  (b = true → ∀ a, O a = none → gs a cls fs R ρ O) ∧ (b = false → RXo cls fs ρ O)
/-- try: .. except C as n: .. -/
def gTryAs (K : PySem.W.Frag) (c : Value) (i : Nat) (gb : XW → GS) (gs : Addr → Value → Option (List (Str × D)) → GS) (RXo : XW) : GS := fun R ρ O => gb (xAs K c i gs RXo R) R ρ O
/-- try: .. except C: .. -/
def gTry (K : PySem.W.Frag) (c : Value) (gb : XW → GS) (gs : Addr → Value → Option (List (Str × D)) → GS) (RXo : XW) : GS := fun R ρ O => gb (xOnly K c gs RXo R) R ρ O
end
/-! ### isinstance of the exception that a suite holds -/
def clsD : D → Value → Prop
  | .ref C, v => v = .ref C
  | .ty n, v => v = .type n
  | _, _ => False
theorem clsD.uniq {K : PySem.W.Frag} {F : Hp} {d : D} {cv u : Value} {v : V} (h : clsD d cv) (r : Rep K F d v) (rv : RelV v u) : u = cv := by
  unfold clsD at h
  split at h
  · simp only [Rep] at r; subst r; subst h; exact rv
  · simp only [Rep] at r; subst r; subst h; exact rv
  · exact h.elim
theorem clsDs {K : PySem.W.Frag} {F : Hp} : ∀ {ds : List D} {cs us : List Value} {vs : List V}, Paired clsD ds cs → RepAll K F ds vs → Vals vs us → us = cs
  | [], _, us, vs, .nil, r, rv => by simp only [RepAll] at r; subst r; cases rv; rfl
  | d :: ds, _, us, vs, .cons h t, r, rv => by
    simp only [RepAll] at r
    obtain ⟨v, w, rfl, r1, r2⟩ := r
    cases rv with
    | cons a b => rw [h.uniq r1 a, clsDs t r2 b]
end Kf
namespace Kf
open PySem PySem.Spec L2
open PyProof.Rows hiding St
/-- an own class of exceptions, as it is named -/
structure Cl (K : PySem.W.Frag) (mg : Str → Option Value) (x : Str) (C : Addr) : Prop where
  g : mg x = some (.ref C)
  sb : PySem.W.subIn K (.ref C) (.type "BaseException") = some true
  hd : PySem.W.hasDictIn K C = true
  ty : PySem.W.typeIn K (.ref C) = some (.type "type")
  sf : PySem.W.subIn K (.ref C) (.ref C) = some true
section
variable {K : PySem.W.Frag} {mg : Str → Option Value} {x : Str} {C D : Addr} {cls : Value} {b : Bool}
theorem cst_cls (c : Cl K mg x C) : Cst K mg x (.ref C) := ⟨_, .ref C, c.g, rfl, fun _ => by simp only [Rep]⟩
theorem Cl.exm (c : Cl K mg x C) (h : PySem.W.subIn K cls (.ref C) = some b) : PySem.W.exmOne K cls (.ref C) = some b := PySem.W.exm_ref c.sb c.hd c.ty h
theorem Cl.kit (c : Cl K mg x C) (h : PySem.W.subIn K (.ref D) (.ref C) = some b) : PySem.W.kitOne K (.ref D) (.ref C) = some b := by
  unfold PySem.W.kitOne
  by_cases e : D = C
  · subst e
    rw [c.sf] at h
    cases h
    rw [if_pos (by simp)]
  · rw [if_neg (by simpa using e)]
    obtain ⟨cd, hc, _⟩ := PySem.W.any_some c.hd
    have e2 : ((PySem.W.clsIn K C).isSome && PySem.W.typeIn K (.ref C) == some (.type "type")) = true := by rw [hc, c.ty] <;> rfl
    show (if ((PySem.W.clsIn K C).isSome && PySem.W.typeIn K (.ref C) == some (.type "type")) = true then PySem.W.subIn K (.ref D) (.ref C) else none) = some b
    rw [if_pos e2, h]
theorem kit_VE (h : PySem.W.subIn K (.ref D) (.type "ValueError") = some b) : PySem.W.kitOne K (.ref D) (.type "ValueError") = some b := by
  unfold PySem.W.kitOne
  rw [if_neg (by simp)]
  show (if PySem.W.kitMeta "ValueError" = true then PySem.W.subIn K (.ref D) (.type "ValueError") else none) = some b
  rw [if_pos (by decide +kernel), h]
theorem kitAny_no (h : ∀ c ∈ cs, PySem.W.kitOne K cls c = some false) : PySem.W.kitAny K cls cs = some false := by
  induction cs with
  | nil => rfl
  | cons c r ih =>
    unfold PySem.W.kitAny
    rw [h c List.mem_cons_self]
    exact ih fun c' hc => h c' (List.mem_cons_of_mem _ hc)
end
theorem bb_ValueError : bootBuiltins "ValueError" = some (.type "ValueError") := by decide +kernel
end Kf
namespace Kf
open PySem PySem.Spec L2
open PyProof.Rows hiding St
variable {M : MX}
section
variable {X : Cx} {e : Expr} {es : List Expr} {fr : FA} {k : Nat} {f : Addr} {fd : FuncData} {ps : List Str} {dsp : DSp} {x : Str} {st : Stmt} {p pos : Pos}
end
/-! ### text * 0, text * 1 -/
section
variable {X : Cx}
end
end Kf
namespace Kf
open PySem PySem.Spec L2
open PyProof.Rows hiding St
variable {M : MX}
/-! ### xs[::-1] -/
section
variable {X : Cx} {e st : Expr} {fa : FE} {te : TE} {tst : TO} {fs : FO} {pos p2 : Pos}
theorem pe_sliceRev (he : PE X e te) (hs : PO X (some st) tst) : PE X (.Subscript e (.Slice none none (some st) p2) pos) (fun σ H Q => te σ H fun x H1 => tst σ H1 fun o H2 => o = some (-1) ∧ ∃ a xs, x = .ref a ∧ SqL X.K H2 a xs ∧ ∀ p, H2 p = none → Q (.ref p) (upd H2 p (.lst xs.reverse))) := by
  refine ⟨fun pins s σ H Q I h => ?_⟩
  refine Subscript_ (thn (he.run pins s σ H _ I h) fun v s1 ⟨x, H1, I1, r1, q1⟩ => ?_)
  refine wpAny_Slice ?_
  rw [evalPart_none]
  refine wpAny_pure (wpAny_pure ?_)
  refine thn (hs.run pins s1 σ H1 _ I1 q1) fun vk s3 ⟨o, H3, I3, pk, q3⟩ => ?_
  obtain ⟨rfl, a, xs, rfl, hx, q⟩ := q3
  cases r1
  have I4 : Inv X pins σ H3 { s3 with heap := s3.heap.push { cls := .type "slice", data := .fields #[.none, .none, vk] } } := I3.kept (t' := s3.toks) fun b ob q => Heap.get?_push_of_some _ q
  obtain ⟨its, r, ht, hz⟩ := I4.list hx
  have hlen := r.length
  refine tail_any (ops := [.ref a, .ref s3.heap.objs.size]) ht.isList.typeIs slot_list_getitem.lookup ?_ (by with_unfolding_all rfl)
  refine wpAny_getItem_list_slice ht.isList (Heap.IsSliceOf.new ..) .none .none pk (by decide) ?_ (by rw [List.size_toArray] <;> omega)
  rw [PySem.W.krv_pick]
  refine ⟨.ref _, _, I4.laid (t' := s3.toks) (o := .lst xs.reverse) (fun b ob q => Heap.get?_push_of_some _ q) (Nat.le_refl _) ?_, rfl, q _ (I4.hok.fresh (Nat.le_refl _))⟩
  refine ⟨by rw [List.length_reverse]; omega, its.reverse, 0, r.reverse, Heap.get?_push_size _ rfl⟩
def rRevD (x : D) (o : Option Int) (O : Ow) (Q : VD) : Prop := o = some (-1) ∧ match deref O x with
  | .lst xs => Q (.lst xs.reverse) O
  | _ => False
def fRev (fa : FE) (fs : FO) : FE := fun ρ O Q => fa ρ O fun x O1 => fs ρ O1 fun o O2 => rRevD x o O2 Q
theorem de_rev (he : DE M X e fa) (hs : DO M X (some st) fs) : DE M X (.Subscript e (.Slice none none (some st) p2) pos) (fRev fa fs) := peMono (pe_sliceRev he hs) fun σ H Q h => by
  obtain ⟨F, O, P, ρ, R, g, en, q, po⟩ := h
  refine ⟨F, O, P, ρ, _, g, en, q, fun x O1 F1 H1 v q1 s1 g1 r1 => ?_⟩
  refine ⟨F1, O1, P, ρ, _, g1, en.mono s1, q1, fun o O2 F2 H2 q2 s2 g2 => ?_⟩
  obtain ⟨e, q2⟩ := q2
  refine ⟨e, ?_⟩
  have r2 := r1.mono s2
  have h := g2.deref r2
  revert h q2
  generalize Kf.deref O2 x = y
  intro q2 h
  cases y <;> first | exact q2.elim | skip
  rename_i ds
  obtain ⟨a, xs, rfl, h1, h2⟩ := h
  exact ⟨a, xs, rfl, SqL.of h1, fun p hp => (po.more (s1.trans s2)).lst g2 q2 h2.reverse hp⟩
theorem rRev_l {xs : List D} {O : Ow} {Q : VD} : rRevD (.lst xs) (some (-1)) O Q = Q (.lst xs.reverse) O := by simp [rRevD, deref]
end
/-! ### reversed(range(n)) -/
section
variable {X : Cx} {tg a : Expr} {fa : FE} {p p2 pos pos2 : Pos}
def asIR (d : D) (O : Ow) (Q : List D → Ow → Prop) : Prop := match d with
  | .int n => -(2 ^ 62) ≤ n ∧ n < 2 ^ 62 ∧ Q (rangeD 0 n.toNat).reverse O
  | _ => False
def fiRevR (fa : FE) : FI := fun ρ O Q => fa ρ O fun d O1 => asIR d O1 Q
theorem itOk_revR {K : PySem.W.Frag} {F : Hp} (n : Nat) : ItOk M K F (Itc ((n : Int) - 1) (-1) n) (rangeD 0 n).reverse := fun F2 O2 P2 H2 s2 g2 i => by
  refine ⟨fun d e => ?_, fun hi => ?_⟩
  · have hl : i < (rangeD 0 n).length := by
      obtain ⟨h, _⟩ := List.getElem?_eq_some_iff.mp e
      simpa using h
    rw [List.getElem?_reverse hl] at e
    rw [rangeD_length] at hl e
    obtain ⟨_, rfl⟩ := rangeD_get e
    refine ⟨hl, fun x H3 hy => ?_⟩
    obtain ⟨rfl, rfl⟩ := hy
    refine ⟨F2, Same.refl _, g2, ?_⟩
    simp only [Rep]
    congr 1
    omega
  · rw [List.length_reverse, rangeD_length] at hi
    exact hi
theorem di_revR (hg : Gl X "reversed") (hm : X.mg "reversed" = none) (hg2 : Gl X "range") (hm2 : X.mg "range" = none) (ha : DE M X a fa)
    (hs : starEach [.Call (.Name "range" p2) [a] [] pos2] X.env = (false, eval (.Call (.Name "range" p2) [a] [] pos2) X.env) :: starEach [] X.env := by rfl) (na : starEach [a] X.env = (false, eval a X.env) :: starEach [] X.env := by rfl) :
    DI M X tg (.Call (.Name "reversed" p) [.Call (.Name "range" p2) [a] [] pos2] [] pos) (fiRevR fa) := piMono (pi_revR hg hm (prg_1 hg2 hm2 ha na) hs) fun σ H Q h => by
  obtain ⟨F, O, P, ρ, R, g, en, q, po⟩ := h
  refine ⟨F, O, P, ρ, _, g, en, q, fun d O1 F1 H1 v q1 s1 g1 r1 => ?_⟩
  unfold asIR at q1
  split at q1
  · rename_i n
    simp only [Rep] at r1
    refine ⟨n, r1, by decide, by decide, q1.1, q1.2.1, po _ O1 F1 H1 _ q1.2.2 s1 g1 ?_⟩
    have e1 : (n - 0).toNat = n.toNat := by rw [Int.sub_zero]
    have e2 : (0 : Int) + ((n - 0).toNat : Nat) - 1 = ((n.toNat : Nat) : Int) - 1 := by rw [e1]; omega
    rw [e2, e1]
    exact itOk_revR _
  · exact q1.elim
theorem asIR_i {n : Int} {O : Ow} {Q : List D → Ow → Prop} : asIR (.int n) O Q = (-(2 ^ 62) ≤ n ∧ n < 2 ^ 62 ∧ Q (rangeD 0 n.toNat).reverse O) := rfl
end
/-! ### sorted, of texts -/
section
variable {X : Cx}
end
end Kf
namespace Kf
open PySem PySem.Spec L2
open PyProof.Rows hiding St
variable {M : MX}
section
variable {X : Cx} {pos : Pos}
/-- {} that never changes -/
def fEdic : FE := fun _ O Q => Q .edic O
end
end Kf
namespace Kf
open PySem PySem.Spec L2
open PyProof.Rows hiding St
/-! ### the readings at their arguments -/
theorem ap_gSeq (g u : GS) {R : DEnds} {ρ : DEnv} {O : Ow} : gSeq g u R ρ O = (g { R with nx := u R } ρ O) := rfl
theorem ap_gIf (c : FT) (g u : GS) {R : DEnds} {ρ : DEnv} {O : Ow} : gIf c g u R ρ O = (c ρ O fun b O1 => if b = true then g R ρ O1 else u R ρ O1) := rfl
theorem ap_gRet (fe : FE) {R : DEnds} {ρ : DEnv} {O : Ow} : gRet fe R ρ O = (fe ρ O R.rt) := rfl
theorem ap_gNext  {R : DEnds} {ρ : DEnv} {O : Ow} : gNext  R ρ O = (R.nx ρ O) := rfl
theorem ap_gSet (fe : FE) (i : Nat) {R : DEnds} {ρ : DEnv} {O : Ow} : gSet fe i R ρ O = (fe ρ O fun d O1 => R.nx (ρ.set i (some d)) O1) := rfl
theorem ap_gAsg (fe : FE) (p : Pat) {R : DEnds} {ρ : DEnv} {O : Ow} : gAsg fe p R ρ O = (fe ρ O fun d O1 => patGet (patD p d ρ) fun ρ' => R.nx ρ' O1) := rfl
theorem ap_gDrop (fe : FE) {R : DEnds} {ρ : DEnv} {O : Ow} : gDrop fe R ρ O = (fe ρ O fun _ O1 => R.nx ρ O1) := rfl
theorem ap_gRetF (fe : FE) {R : DEnds} {ρ : DEnv} {O : Ow} : gRetF fe R ρ O = (fe ρ O fun d O1 => match d with
  | .ref a => match O1 a with
    | some (.lst ds) => R.rt (.lst ds) (delO O1 a)
    | _ => False
  | _ => False) := rfl
theorem ap_gRetN  {R : DEnds} {x1_ : DEnv} {O : Ow} : gRetN  R x1_ O = (R.rt .non O) := rfl
theorem ap_gFor (fi : FI) (p : Pat) (gb : GS) {R : DEnds} {ρ : DEnv} {O : Ow} : gFor fi p gb R ρ O = (fi ρ O fun ds O1 => forD p gb R ds ρ O1) := rfl
theorem ap_gSetIx (fo fi fe : FE) {R : DEnds} {ρ : DEnv} {O : Ow} : gSetIx fo fi fe R ρ O = (fe ρ O fun d O1 => fo ρ O1 fun x O2 => fi ρ O2 fun y O3 => rSetD x y d O3 (R.nx ρ)) := rfl
theorem ap_gBreak  {R : DEnds} {ρ : DEnv} {O : Ow} : gBreak  R ρ O = (R.bk ρ O) := rfl
theorem ap_fRev (fa : FE) (fs : FO) {ρ : DEnv} {O : Ow} {Q : VD} : fRev fa fs ρ O Q = (fa ρ O fun x O1 => fs ρ O1 fun o O2 => rRevD x o O2 Q) := rfl
theorem ap_fiRevR (fa : FE) {ρ : DEnv} {O : Ow} {Q : (List D → Ow → Prop)} : fiRevR fa ρ O Q = (fa ρ O fun d O1 => asIR d O1 Q) := rfl
theorem ap_fCallX (dsp : DSp) (RX : XW) (fr : FA) {ρ : DEnv} {O : Ow} {Q : VD} : fCallX dsp RX fr ρ O Q = (fr ρ O fun ds O1 => dsp ds O1 Q fun cls fs O' => RX cls fs ρ O') := rfl
theorem ap_gRaise (RX : XW) (cls : Value) {x0_ : DEnds} {ρ : DEnv} {O : Ow} : gRaise RX cls x0_ ρ O = (RX cls none ρ O) := rfl
theorem ap_gTry (K : PySem.W.Frag) (c : Value) (gb : XW → GS) (gs : Addr → Value → Option (List (Str × D)) → GS) (RXo : XW) {R : DEnds} {ρ : DEnv} {O : Ow} : gTry K c gb gs RXo R ρ O = (gb (xOnly K c gs RXo R) R ρ O) := rfl
theorem ap_gTryAs (K : PySem.W.Frag) (c : Value) (i : Nat) (gb : XW → GS) (gs : Addr → Value → Option (List (Str × D)) → GS) (RXo : XW) {R : DEnds} {ρ : DEnv} {O : Ow} : gTryAs K c i gb gs RXo R ρ O = (gb (xAs K c i gs RXo R) R ρ O) := rfl
theorem ap_gNever  {x0_ : DEnds} {x1_ : DEnv} {x2_ : Ow} : gNever  x0_ x1_ x2_ = (False) := rfl
theorem ap_fEdic  {x0_ : DEnv} {O : Ow} {Q : VD} : fEdic  x0_ O Q = (Q .edic O) := rfl
theorem ap_fTest (f : FE) {ρ : DEnv} {O : Ow} {Q : (Bool → Ow → Prop)} : fTest f ρ O Q = (f ρ O fun d O1 => ∃ k, d = .bl k ∧ Q k O1) := rfl
theorem ap_fOp (r : R2D) (fa fb : FE) {ρ : DEnv} {O : Ow} {Q : VD} : fOp r fa fb ρ O Q = (fa ρ O fun x O1 => fb ρ O1 fun y O2 => r x y O2 Q) := rfl
theorem ap_fVar (i : Nat) {ρ : DEnv} {O : Ow} {Q : VD} : fVar i ρ O Q = (envGet ρ[i]? O Q) := rfl
theorem ap_fC (d : D) {x0_ : DEnv} {O : Ow} {Q : VD} : fC d x0_ O Q = (Q d O) := rfl
theorem ap_fCB (r : RAD) (fr : FA) {ρ : DEnv} {O : Ow} {Q : VD} : fCB r fr ρ O Q = (fr ρ O fun ds O1 => r ds O1 Q) := rfl
theorem ap_fCons (fa : FE) (fr : FA) {ρ : DEnv} {O : Ow} {Q : (List D → Ow → Prop)} : fCons fa fr ρ O Q = (fa ρ O fun x O1 => fr ρ O1 fun xs O2 => Q (x :: xs) O2) := rfl
theorem ap_fNil  {x0_ : DEnv} {O : Ow} {Q : (List D → Ow → Prop)} : fNil  x0_ O Q = (Q [] O) := rfl
theorem ap_fCall (dsp : DSp) (fr : FA) {ρ : DEnv} {O : Ow} {Q : VD} : fCall dsp fr ρ O Q = (fr ρ O fun ds O1 => dsp ds O1 Q X0) := rfl
theorem ap_fAnd (t u : FT) {ρ : DEnv} {O : Ow} {Q : (Bool → Ow → Prop)} : fAnd t u ρ O Q = (t ρ O fun c O1 => if c = true then u ρ O1 Q else Q false O1) := rfl
theorem ap_fOr (t u : FT) {ρ : DEnv} {O : Ow} {Q : (Bool → Ow → Prop)} : fOr t u ρ O Q = (t ρ O fun c O1 => if c = true then Q true O1 else u ρ O1 Q) := rfl
theorem ap_fNot (t : FT) {ρ : DEnv} {O : Ow} {Q : (Bool → Ow → Prop)} : fNot t ρ O Q = (t ρ O fun c O1 => Q (!c) O1) := rfl
theorem ap_fAndV (fa fb : FE) {ρ : DEnv} {O : Ow} {Q : VD} : fAndV fa fb ρ O Q = (fa ρ O fun x O1 => ∃ c, x = .bl c ∧ if c = true then fb ρ O1 Q else Q (.bl false) O1) := rfl
theorem ap_fOrV (fa fb : FE) {ρ : DEnv} {O : Ow} {Q : VD} : fOrV fa fb ρ O Q = (fa ρ O fun x O1 => ∃ c, x = .bl c ∧ if c = true then Q (.bl true) O1 else fb ρ O1 Q) := rfl
theorem ap_fNotV (fa : FE) {ρ : DEnv} {O : Ow} {Q : VD} : fNotV fa ρ O Q = (fa ρ O fun x O1 => ∃ c, x = .bl c ∧ Q (.bl (!c)) O1) := rfl
theorem ap_fIf (t : FT) (fa fb : FE) {ρ : DEnv} {O : Ow} {Q : VD} : fIf t fa fb ρ O Q = (t ρ O fun c O1 => if c = true then fa ρ O1 Q else fb ρ O1 Q) := rfl
theorem ap_fTup (fr : FA) {ρ : DEnv} {O : Ow} {Q : VD} : fTup fr ρ O Q = (fr ρ O fun xs O1 => xs.length ≤ sizeLine ∧ Q (.tup xs) O1) := rfl
theorem ap_fLst (fr : FA) {ρ : DEnv} {O : Ow} {Q : VD} : fLst fr ρ O Q = (fr ρ O fun xs O1 => xs.length ≤ sizeLine ∧ Q (.lst xs) O1) := rfl
theorem ap_fLstO (fr : FA) {ρ : DEnv} {O : Ow} {Q : VD} : fLstO fr ρ O Q = (fr ρ O fun xs O1 => xs.length ≤ sizeLine ∧ ∀ p, O1 p = none → Q (.ref p) (updO O1 p (.lst xs))) := rfl
theorem ap_fChain (r r' : R2D) (fa fb fc : FE) {ρ : DEnv} {O : Ow} {Q : VD} : fChain r r' fa fb fc ρ O Q = (fa ρ O fun x O1 => fb ρ O1 fun y O2 => r x y O2 fun z O3 => ∃ k, z = .bl k ∧ (if k = true then fc ρ O3 fun w O4 => r' y w O4 Q else Q (.bl false) O3)) := rfl
theorem ap_fUn (r : R1D) (f : FE) {ρ : DEnv} {O : Ow} {Q : VD} : fUn r f ρ O Q = (f ρ O fun x O1 => r x O1 Q) := rfl
theorem ap_fBM (T : String) (r : RMD) (fo : FE) (fr : FA) {ρ : DEnv} {O : Ow} {Q : VD} : fBM T r fo fr ρ O Q = (fo ρ O fun x O1 => tyOk T O1 x = true ∧ fr ρ O1 fun ds O2 => r x ds O2 Q) := rfl
theorem ap_fBM0 (T : String) (r : RMD) (fo : FE) {ρ : DEnv} {O : Ow} {Q : VD} : fBM0 T r fo ρ O Q = (fo ρ O fun x O1 => tyOk T O1 x = true ∧ r x [] O1 Q) := rfl
theorem ap_fPool (fr : FA) {ρ : DEnv} {O : Ow} {Q : VD} : fPool fr ρ O Q = (fr ρ O fun xs O1 => rPool xs O1 Q) := rfl
theorem ap_fSl (r : R3D) (fe : FE) (fl fh : FO) {ρ : DEnv} {O : Ow} {Q : VD} : fSl r fe fl fh ρ O Q = (fe ρ O fun x O1 => fl ρ O1 fun l O2 => fh ρ O2 fun u O3 => r x l u O3 Q) := rfl
theorem ap_fPart (f : FE) {ρ : DEnv} {O : Ow} {Q : (Option Int → Ow → Prop)} : fPart f ρ O Q = (f ρ O fun d O1 => asI d O1 Q) := rfl
theorem ap_fNoPart  {x0_ : DEnv} {O : Ow} {Q : (Option Int → Ow → Prop)} : fNoPart  x0_ O Q = (Q none O) := rfl
theorem ap_fiRng1 (fr : FA) {ρ : DEnv} {O : Ow} {Q : (List D → Ow → Prop)} : fiRng1 fr ρ O Q = (fr ρ O fun ds O1 => asR1 ds O1 fun i n O2 => Q (rangeD i n) O2) := rfl
theorem ap_fiRng2 (fr : FA) {ρ : DEnv} {O : Ow} {Q : (List D → Ow → Prop)} : fiRng2 fr ρ O Q = (fr ρ O fun ds O1 => asR2 ds O1 fun i n O2 => Q (rangeD i n) O2) := rfl
theorem ap_fiList (fl : FE) {ρ : DEnv} {O : Ow} {Q : (List D → Ow → Prop)} : fiList fl ρ O Q = (fl ρ O fun d O1 => asL d O1 Q) := rfl
theorem ap_fiTup (fl : FE) {ρ : DEnv} {O : Ow} {Q : (List D → Ow → Prop)} : fiTup fl ρ O Q = (fl ρ O fun d O1 => asT d O1 Q) := rfl
theorem ap_fiStr (fl : FE) {ρ : DEnv} {O : Ow} {Q : (List D → Ow → Prop)} : fiStr fl ρ O Q = (fl ρ O fun d O1 => asSg d O1 Q) := rfl
theorem ap_fiEnum (fr : FA) {ρ : DEnv} {O : Ow} {Q : (List D → Ow → Prop)} : fiEnum fr ρ O Q = (fr ρ O fun ds O1 => asL1 ds O1 fun ds O2 => Q (enumD ds) O2) := rfl
theorem ap_fiZip (fr : FA) {ρ : DEnv} {O : Ow} {Q : (List D → Ow → Prop)} : fiZip fr ρ O Q = (fr ρ O fun ds O1 => asL2 ds O1 fun ds es O2 => Q (zipD ds es) O2) := rfl
theorem ap_fiRev (fr : FA) {ρ : DEnv} {O : Ow} {Q : (List D → Ow → Prop)} : fiRev fr ρ O Q = (fr ρ O fun ds O1 => asL1 ds O1 fun ds O2 => Q ds.reverse O2) := rfl
theorem ap_fLc (fi : FI) (p : Pat) (ft : FT) (fe : FE) (vs : List Nat) {ρ : DEnv} {O : Ow} {Q : VD} : fLc fi p ft fe vs ρ O Q = (fi ρ O fun ds O1 => lcD p ft fe (wipeD ρ vs) ds [] O1 fun acc O2 => Q (.lst acc) O2) := rfl
theorem ap_fLcO (fi : FI) (p : Pat) (ft : FT) (fe : FE) (vs : List Nat) {ρ : DEnv} {O : Ow} {Q : VD} : fLcO fi p ft fe vs ρ O Q = (fi ρ O fun ds O1 => lcD p ft fe (wipeD ρ vs) ds [] O1 fun acc O2 => ∀ q, O2 q = none → Q (.ref q) (updO O2 q (.lst acc))) := rfl
theorem ap_fYes  {x0_ : DEnv} {O : Ow} {Q : (Bool → Ow → Prop)} : fYes  x0_ O Q = (Q true O) := rfl
theorem ap_gAug (i : Nat) (fe : FE) (r : R2D) {R : DEnds} {ρ : DEnv} {O : Ow} : gAug i fe r R ρ O = (match ρ[i]? with
  | some (some x) => fe ρ O fun y O1 => r x y O1 fun z O2 => R.nx (ρ.set i (some z)) O2
  | _ => False) := rfl
end Kf
/-! Dl15: owned dicts whose keys are whole numbers and texts. -/
namespace Kf
open PySem PySem.Spec L2
open PyProof.Rows hiding St
variable {M : MX}
/-! ### tables of data -/
def keyOf : D → Option Key
  | .int i => some (.inl i)
  | .str s => some (.inr s)
  | _ => none
def keyD : Key → D
  | .inl i => .int i
  | .inr s => .str s
theorem keyOf_rep {K : PySem.W.Frag} {F : Hp} {d : D} {v : V} {k : Key} (h : keyOf d = some k) (r : Rep K F d v) : v = kV k := by
  cases d <;> simp only [keyOf] at h <;> first | cases h; done | skip
  all_goals
    cases h
    simp only [Rep] at r
    subst r
    rfl
def valD {κ : Type} [DecidableEq κ] (kvs : List (κ × D)) (k : κ) : Option D := (kvs.find? fun kv => decide (kv.1 = k)).map (·.2)
def putD {κ : Type} [DecidableEq κ] (kvs : List (κ × D)) (k : κ) (d : D) : List (κ × D) :=
  if (kvs.any fun kv => decide (kv.1 = k)) = true then kvs.map (fun kv => if kv.1 = k then (kv.1, d) else kv) else kvs ++ [(k, d)]
section
variable {κ : Type} [DecidableEq κ] {K : PySem.W.Frag} {F H P : Hp} {O : Ow} {kvs : List (κ × D)} {vs : List (κ × V)} {k : κ} {d : D} {v : V} {a : Addr}
theorem KvOk.val (h : KvOk K F kvs vs) : (∀ d, valD kvs k = some d → ∃ v, valV vs k = some v ∧ Rep K F d v) ∧ (valD kvs k = none → valV vs k = none) := by
  induction h with
  | nil => exact ⟨fun d e => by simp [valD] at e, fun _ => rfl⟩
  | @cons p q _ _ r t ih =>
    obtain ⟨r1, r2⟩ := r
    by_cases e : p.1 = k
    · have e2 : q.1 = k := r1 ▸ e
      refine ⟨fun d h => ?_, fun h => ?_⟩
      · simp [valD, List.find?_cons, e] at h
        subst h
        exact ⟨q.2, valV_pos e2, r2⟩
      · simp [valD, List.find?_cons, e] at h
    · have e2 : ¬ q.1 = k := fun z => e (r1.trans z)
      rw [valV_neg e2]
      have e3 : ∀ l : List (κ × D), valD (p :: l) k = valD l k := fun l => by simp [valD, List.find?_cons, e]
      rw [e3]
      exact ih
theorem KvOk.any (h : KvOk K F kvs vs) : (kvs.any fun kv => decide (kv.1 = k)) = (vs.any fun kv => decide (kv.1 = k)) := by
  induction h with
  | nil => rfl
  | cons r _ ih => rw [List.any_cons, List.any_cons, ih, r.1]
theorem KvOk.put (h : KvOk K F kvs vs) (r : Rep K F d v) : KvOk K F (putD kvs k d) (putK vs k v) := by
  unfold putD putK
  rw [h.any (k := k)]
  split
  · rename_i hh; clear hh
    induction h with
    | nil => exact .nil
    | @cons p q _ _ z t ih =>
      rw [List.map_cons, List.map_cons]
      refine .cons ?_ ih
      by_cases e : p.1 = k
      · rw [if_pos e, if_pos (z.1 ▸ e)]; exact ⟨z.1, r⟩
      · rw [if_neg e, if_neg (fun w => e (z.1.trans w))]; exact z
  · exact Paired.snoc h ⟨rfl, r⟩
theorem KvOk.keys (h : KvOk K F kvs vs) : vs.map (·.1) = kvs.map (·.1) := by
  induction h with
  | nil => rfl
  | cons r _ ih => rw [List.map_cons, List.map_cons, ih, r.1]
end
section
variable {K : PySem.W.Frag} {F H P : Hp} {O : Ow} {kvs : List (Key × D)} {vs : List (Key × V)} {k : Key} {d : D} {v : V} {a : Addr}
/-- what a dict holds, locked or not -/
def dicAt (O : Ow) (a : Addr) : Option (List (Key × D)) := match O a with
  | some (.dic kvs) => some kvs
  | some (.dicL kvs _) => some kvs
  | _ => none
theorem Gd.dic (g : Gd M K F O P H) (h : dicAt O a = some kvs) : ∃ vs, Rd H a (.dK vs) ∧ KvOk K F kvs vs := by
  unfold dicAt at h
  split at h <;> first | cases h; done | skip
  · rename_i e
    cases h
    obtain ⟨_, _, vs, h1, h2⟩ := g.ow a _ e
    exact ⟨vs, .inl h1, h2⟩
  · rename_i e
    cases h
    obtain ⟨_, _, h1, od, vs, rfl, h2⟩ := g.ow a _ e
    exact ⟨vs, .inr ⟨od, h1⟩, h2⟩
/-- what stands at a key -/
def rKeyT (x y : D) (O : Ow) (N : Option D → Prop) : Prop := match x, y with
  | .ref a, .tupK ks => match O a with
    | some (.dicT kvs) => N (valD kvs ks)
    | _ => False
  | _, _ => False
def rKey (x y : D) (O : Ow) (N : Option D → Prop) : Prop := match x, keyOf y with
  | .ref a, some k => match dicAt O a with
    | some kvs => N (valD kvs k)
    | none => False
  | x, none => rKeyT x y O N
  | _, _ => False
theorem Gd.dicT (g : Gd M K F O P H) {kvt : List (List Key × D)} (h : O a = some (.dicT kvt)) : ∃ vs : List (List Key × V), H a = some (.dT vs) ∧ KvOk K F kvt vs := (g.ow a _ h).2.2
theorem Gd.key (g : Gd M K F O P H) {x y : D} {w : V} {N : Option D → Prop} (rx : Rep K F x v) (ry : Rep K F y w) (q : rKey x y O N) :
    ∃ a o oV, v = .ref a ∧ DGet H a w oV ∧ IsD H a ∧ N o ∧ (∀ d, o = some d → ∃ z, oV = some z ∧ Rep K F d z) ∧ (o = none → oV = none) := by
  unfold rKey at q
  split at q <;> first | exact q.elim | skip
  · rename_i a k e
    split at q <;> first | exact q.elim | skip
    rename_i kvs e2
    obtain ⟨vs, h1, h2⟩ := g.dic e2
    simp only [Rep] at rx
    have ew := keyOf_rep e ry
    subst ew
    obtain ⟨v1, v2⟩ := h2.val (k := k)
    exact ⟨a, _, _, rx, .inl ⟨vs, k, h1, rfl, rfl⟩, .inl ⟨vs, h1⟩, q, v1, v2⟩
  · unfold rKeyT at q
    split at q <;> first | exact q.elim | skip
    rename_i a ks _
    split at q <;> first | exact q.elim | skip
    rename_i kvs e2
    obtain ⟨vs, h1, h2⟩ := g.dicT e2
    simp only [Rep] at rx ry
    obtain ⟨b, rfl, hb⟩ := ry
    obtain ⟨v1, v2⟩ := h2.val (k := ks)
    exact ⟨a, _, _, rx, .inr ⟨vs, ks, b, .inl h1, rfl, g.fz _ _ hb, rfl⟩, .inr ⟨vs, .inl h1⟩, q, v1, v2⟩
end
section
variable {X : Cx} {o i e f value : Expr} {pos pos' apos cpos : Pos} {fo fi fe fx : FE}
/-- {} that changes -/
def fDicO : FE := fun _ O Q => ∀ p, O p = none → Q (.ref p) (updO O p (.dic []))
/-- d[k] -/
def rDGet (x y : D) (O : Ow) (Q : VD) : Prop := rKey x y O fun o => match o with
  | some d => Q d O
  | none => False
def fDGet (fo fi : FE) : FE := fun ρ O Q => fo ρ O fun x O1 => fi ρ O1 fun y O2 => rDGet x y O2 Q
/-- d.get(k), d.get(k, x) -/
def isDc (O : Ow) (x : D) : Bool := match x with
  | .ref a => (dicAt O a).isSome
  | _ => false
def fDGet1 (fo fi : FE) : FE := fun ρ O Q => fo ρ O fun x O1 => isDc O1 x = true ∧ fi ρ O1 fun y O2 => rKey x y O2 fun o => Q (o.getD .non) O2
def fDGet2 (fo fi fx : FE) : FE := fun ρ O Q => fo ρ O fun x O1 => isDc O1 x = true ∧ fi ρ O1 fun y O2 => fx ρ O2 fun z O3 => rKey x y O3 fun o => Q (o.getD z) O3
/-- d[k] = v -/
def rDPutT (x y d : D) (O : Ow) (N : Ow → Prop) : Prop := match x, y with
  | .ref a, .tupK ks => match O a with
    | some (.dicT kvs) => kvs.length < sizeLine ∧ N (updO O a (.dicT (putD kvs ks d)))
    | _ => False
  | _, _ => False
def rDPut (x y d : D) (O : Ow) (N : Ow → Prop) : Prop := match x, keyOf y with
  | .ref a, some k => match O a with
    | some (.dic kvs) => kvs.length < sizeLine ∧ N (updO O a (.dic (putD kvs k d)))
    | _ => False
  | x, none => rDPutT x y d O N
  | _, _ => False
def gDPut (fo fi fe : FE) : GS := fun R ρ O => fe ρ O fun d O1 => fo ρ O1 fun x O2 => fi ρ O2 fun y O3 => rDPut x y d O3 (R.nx ρ)
end
/-! ### the keys of a dict -/
section
variable {X : Cx}
end
/-! ### isinstance(x, (T1, T2, ..)) -/
section
variable {X : Cx} {a : Expr} {es : List Expr} {fa : FE} {fr : FA} {p pos tpos : Pos}
def asTys : List D → Option (List String)
  | [] => some []
  | .ty n :: r => (asTys r).map (n :: ·)
  | _ :: _ => none
def rIsiTs (x : D) (ds : List D) (O : Ow) (Q : VD) : Prop := match asTys ds with
  | some ns => ns.length ≤ sizeLine ∧ (ns.all fun n => insCl.contains n) = true ∧ insTy.contains (tyNm O x) = true ∧ Q (.bl (ns.any (insOf (tyNm O x)))) O
  | none => False
def fIsiT (fa : FE) (fr : FA) : FE := fun ρ O Q => fa ρ O fun x O1 => fr ρ O1 fun ds O2 => rIsiTs x ds O2 Q
end
/-! ### a walk along an owned list that stays -/
section
variable {X : Cx} {tg l : Expr} {fl : FE} {pos : Pos}
def forR (a : Addr) (all : List D) (p : Pat) (gb : GS) (R : DEnds) : List D → DEnv → Ow → Prop
  | [], ρ, O => O a = some (.lst all) ∧ R.nx ρ O
  | d :: ds, ρ, O => O a = some (.lst all) ∧ patGet (patD p d ρ) fun ρ1 => gb { R with nx := forR a all p gb R ds, ct := forR a all p gb R ds, bk := R.nx } ρ1 O
def asLR (d : D) (O : Ow) (Q : Addr → List D → Ow → Prop) : Prop := match d with
  | .ref a => match O a with
    | some (.lst ds) => Q a ds O
    | _ => False
  | _ => False
def gForR (fl : FE) (p : Pat) (gb : GS) : GS := fun R ρ O => fl ρ O fun x O1 => asLR x O1 fun a ds O2 => forR a ds p gb R ds ρ O2
end
/-! ### a list times a number -/
section
variable {X : Cx} {K : PySem.W.Frag} {F : Hp}
theorem RepAll.reps {ds : List D} {vs : List V} (h : RepAll K F ds vs) : ∀ n : Nat, RepAll K F (List.replicate n ds).flatten (List.replicate n vs).flatten
  | 0 => .nil
  | n + 1 => by
    rw [List.replicate_succ, List.replicate_succ, List.flatten_cons, List.flatten_cons]
    exact h.append (RepAll.reps h n)
def rRepD : R2D := fun x y O Q => match x, y with
  | .lst ds, .int k => (-(2 ^ 63) ≤ k ∧ k < 2 ^ 63 ∧ ds.length * k.toNat ≤ sizeLine) ∧ Q (.lst (List.replicate k.toNat ds).flatten) O
  | _, _ => False
theorem od_rep : OpD M X (binaryOp .Mult) rRepD := by
  refine opD_of fun pins s σ F P H O x y dx dy v u R Q I rx ry gd r1 r2 q po => ?_
  unfold rRepD at q
  split at q
  · rename_i ds k
    simp only [Rep] at r1 r2
    obtain ⟨a, xs, rfl, h1, h2⟩ := r1
    subst r2
    obtain ⟨⟨q1, q2, q3⟩, q4⟩ := q
    exact ⟨_, op_rep, a, k, xs, rfl, rfl, gd.fz _ _ h1, q1, q2, by rw [← h2.length]; exact q3, fun p hp => po.lst gd q4 (h2.reps _) hp⟩
  · exact q.elim
end
/-! ### a call without arguments -/
section
variable {X : Cx} {k : Nat} {f : Addr} {fd : FuncData} {ps : List Str} {dsp : DSp} {x : Str} {st : Stmt} {p pos : Pos}
end
/-! ### the readings at their arguments -/
theorem ap_fDicO {ρ : DEnv} {O : Ow} {Q : VD} : fDicO ρ O Q = (∀ p, O p = none → Q (.ref p) (updO O p (.dic []))) := rfl
theorem ap_fDGet (fo fi : FE) {ρ : DEnv} {O : Ow} {Q : VD} : fDGet fo fi ρ O Q = (fo ρ O fun x O1 => fi ρ O1 fun y O2 => rDGet x y O2 Q) := rfl
theorem ap_fDGet1 (fo fi : FE) {ρ : DEnv} {O : Ow} {Q : VD} : fDGet1 fo fi ρ O Q = (fo ρ O fun x O1 => isDc O1 x = true ∧ fi ρ O1 fun y O2 => rKey x y O2 fun o => Q (o.getD .non) O2) := rfl
theorem ap_fDGet2 (fo fi fx : FE) {ρ : DEnv} {O : Ow} {Q : VD} : fDGet2 fo fi fx ρ O Q = (fo ρ O fun x O1 => isDc O1 x = true ∧ fi ρ O1 fun y O2 => fx ρ O2 fun z O3 => rKey x y O3 fun o => Q (o.getD z) O3) := rfl
theorem ap_gDPut (fo fi fe : FE) {R : DEnds} {ρ : DEnv} {O : Ow} : gDPut fo fi fe R ρ O = (fe ρ O fun d O1 => fo ρ O1 fun x O2 => fi ρ O2 fun y O3 => rDPut x y d O3 (R.nx ρ)) := rfl
theorem ap_fIsiT (fa : FE) (fr : FA) {ρ : DEnv} {O : Ow} {Q : VD} : fIsiT fa fr ρ O Q = (fa ρ O fun x O1 => fr ρ O1 fun ds O2 => rIsiTs x ds O2 Q) := rfl
theorem ap_gForR (fl : FE) (p : Pat) (gb : GS) {R : DEnds} {ρ : DEnv} {O : Ow} : gForR fl p gb R ρ O = (fl ρ O fun x O1 => asLR x O1 fun a ds O2 => forR a ds p gb R ds ρ O2) := rfl
section
variable {O : Ow} {a : Addr} {kvs : List (Key × D)} {Q : VD} {N : Option D → Prop} {k : Key} {x y d : D} {t : Str} {i : Int}
theorem rRep_l {ds : List D} : rRepD (.lst ds) (.int i) O Q = ((-(2 ^ 63) ≤ i ∧ i < 2 ^ 63 ∧ ds.length * i.toNat ≤ sizeLine) ∧ Q (.lst (List.replicate i.toNat ds).flatten) O) := rfl
theorem sl1 : ((["list", "tuple"] : List String).length ≤ sizeLine) = True := by simp [sizeLine]
theorem isT_lt (h : insTy.contains (tyNm O x) = true) : rIsiTs x [.ty "list", .ty "tuple"] O Q = Q (.bl (["list", "tuple"].any (insOf (tyNm O x)))) O := by
  have e : asTys [D.ty "list", D.ty "tuple"] = some ["list", "tuple"] := rfl
  have e2 : ((["list", "tuple"] : List String).all fun n => insCl.contains n) = true := by decide
  simp only [rIsiTs, e, sl1, h, e2, true_and]
theorem isT_i : rIsiTs (.int i) [.ty "list", .ty "tuple"] O Q = Q (.bl false) O := isT_lt rfl
theorem isT_s : rIsiTs (.str t) [.ty "list", .ty "tuple"] O Q = Q (.bl false) O := isT_lt rfl
theorem isT_b {b : Bool} : rIsiTs (.bl b) [.ty "list", .ty "tuple"] O Q = Q (.bl false) O := isT_lt rfl
theorem isT_n : rIsiTs .non [.ty "list", .ty "tuple"] O Q = Q (.bl false) O := isT_lt rfl
theorem isT_t {xs : List D} : rIsiTs (.tup xs) [.ty "list", .ty "tuple"] O Q = Q (.bl true) O := isT_lt rfl
theorem isT_l {xs : List D} : rIsiTs (.lst xs) [.ty "list", .ty "tuple"] O Q = Q (.bl true) O := isT_lt rfl
end
/-! ### an owned list that a call tells, frozen at once -/
section
variable {X : Cx} {e : Expr} {fe : FE}
def rFrz (d : D) (O : Ow) (Q : VD) : Prop := match d with
  | .ref a => match O a with
    | some (.lst ds) => Q (.lst ds) (delO O a)
    | _ => False
  | _ => False
def fFrz (fe : FE) : FE := fun ρ O Q => fe ρ O fun d O1 => rFrz d O1 Q
theorem de_frz (he : DE M X e fe) : DE M X e (fFrz fe) := peMono he fun σ H Q h => by
  obtain ⟨F, O, P, ρ, R, g, en, q, po⟩ := h
  refine ⟨F, O, P, ρ, _, g, en, q, fun d O1 F1 H1 v q1 s1 g1 r1 => ?_⟩
  unfold rFrz at q1
  split at q1 <;> first | exact q1.elim | skip
  rename_i a
  split at q1 <;> first | exact q1.elim | skip
  rename_i ds e
  simp only [Rep] at r1
  subst r1
  obtain ⟨F2, s2, g2, r2⟩ := g1.freeze e
  exact po _ _ F2 H1 _ q1 (s1.trans s2) g2 r2
theorem ap_fFrz (fe : FE) {ρ : DEnv} {O : Ow} {Q : VD} : fFrz fe ρ O Q = (fe ρ O fun d O1 => rFrz d O1 Q) := rfl
theorem rFrz_u {p : Addr} {ds : List D} {O : Ow} {Q : VD} (h : O p = none) : rFrz (.ref p) (updO O p (.lst ds)) Q = Q (.lst ds) O := by
  simp only [rFrz, updO_same, delO_updO h]
end
end Kf
/-! Dl16: max(xs), max(xs, default=d) of ints. -/
namespace Kf
open PySem PySem.Spec L2
open PyProof.Rows hiding St
section
variable {prog : Program} {w : World} {A : Around} {Rz : Result → Shared → Prop} {it : Addr} {fp wr : List Addr} {n : Nat} {Pv : Nat → Value → Prop} {Sw : Nat → Heap → Prop}
theorem mx_nm : (toString "max" ++ toString ".loop" : String) = "max.loop" := by decide
/-- the rest of max's walk, whatever keywords stand by -/
theorem mx_more (Wk : Walks prog w A.in1 it fp wr n Pv Sw) (bt : Nat → Nat → Bool) (cmp : CmpOf prog w A.in1 .Gt Pv bt) (B : Addr) (hB : B ∉ fp) (kw : List (Str × Value)) :
    ∀ (left j : Nat) (s : Shared) (u : Value) (ep : Nat), n - (j + 1) = left → j + 1 ≤ n → Sw (j + 1) s.heap → Pv (argBest bt j) u →
      s.heap.get? B = some { cls := .type "list", dict := none, data := .seq #[u, u] ep, slots := #[] } →
      (∀ v h' tk, Pv (argBest bt (n - 1)) v → (∀ b o, b ∉ wr → b ≠ B → s.heap.get? b = some o → h'.get? b = some o) → Rz (.ok (.ret v)) { s with heap := h', toks := tk }) →
      codeAny (model prog w) A (.builtin "max.loop" ⟨[.ref it, .none, .ref B], kw⟩) Rz s := by
  have hBw : B ∉ wr := fun h => hB (Wk.sub _ h)
  intro left
  induction left with
  | zero =>
    intro j s u ep e1 hj st pu hb fin
    have en : j + 1 = n := by omega
    refine codeAny_builtin PySem.F.entry_max_loop ?_
    rw [Around.under_plainId PySem.F.plain_max_loop _]
    refine wpAny_bind (wpAny_seqItems hb rfl ?_)
    refine wpAny_bind (wpAny_tryCatch (Wk.done s _ _ (en ▸ st) fun h' tk kp => ?_))
    have hb' := kp B _ hBw hb
    refine wpAny_bind ?_
    refine wpAny_updateSeq hb' rfl (wpAny_bind (wpAny_letGo (wpAny_pure ?_)))
    exact fin u _ tk (by rw [← en]; exact pu) fun b o h1 h2 e => (Heap.get?_update_other _ _ (Ne.symm h2)).trans (kp b o h1 e)
  | succ left ih =>
    intro j s u ep e1 hj st pu hb fin
    have lt : j + 1 < n := by omega
    refine codeAny_builtin PySem.F.entry_max_loop ?_
    rw [Around.under_plainId PySem.F.plain_max_loop _]
    refine wpAny_bind (wpAny_seqItems hb rfl ?_)
    refine wpAny_bind (wpAny_tryCatch (Wk.item (j + 1) s _ _ lt st fun v h' tk pv st' kp => ?_))
    have hb' := kp B _ hBw hb
    show wpAny _ A.in1 (tryCatch (holding [v, v] (richCompare .Gt v u >>= _)) _ >>= _) _ _ _
    refine wpAny_bind (wpAny_tryCatch (wpAny_holding (wpAny_bind (cmp (j + 1) (argBest bt j) v u _ _ _ pv pu ?_))))
    refine wpAny_bind (wpAny_holding (wpAny_truthy_bool ?_)); refine wpAny_bind (wpAny_letGo (wpAny_pure ?_))
    by_cases c : bt (j + 1) (argBest bt j) = true
    · simp only [c, if_true]
      refine wpAny_bind ?_
      refine wpAny_updateSeq hb' rfl (wpAny_bind (wpAny_letGo ?_)); rw [mx_nm]
      refine wpAny_pure ⟨plainId_quiet PySem.F.plain_max_loop _, ih (j + 1) _ v _ (by omega) lt (Wk.frame _ _ _ st' fun b bf o e => (Heap.get?_update_other _ _ (fun h : B = b => hB (by rw [h]; exact bf))).trans e) (by simp only [argBest, c, if_true]; exact pv) (Heap.get?_update_self _ hb' rfl) fun v2 h2 tk2 p2 k2 => ?_⟩
      exact fin v2 h2 tk2 p2 fun b o h1 h3 e => k2 b o h1 h3 ((Heap.get?_update_other _ _ (Ne.symm h3)).trans (kp b o h1 e))
    · simp only [c, if_false, Bool.false_eq_true]
      refine wpAny_bind (wpAny_letGo ?_); rw [mx_nm]
      refine wpAny_pure ⟨plainId_quiet PySem.F.plain_max_loop _, ih (j + 1) _ u ep (by omega) lt st' (by simp only [argBest, c, if_false, Bool.false_eq_true]; exact pu) hb' fun v2 h2 tk2 p2 k2 => ?_⟩
      exact fin v2 h2 tk2 p2 fun b o h1 h3 e => k2 b o h1 h3 (kp b o h1 e)
theorem mx_first (Wk : Walks prog w A.in1 it fp wr n Pv Sw) (bt : Nat → Nat → Bool) (cmp : CmpOf prog w A.in1 .Gt Pv bt) (B : Addr) (hB : B ∉ fp) (kw : List (Str × Value)) (hn : 0 < n) {s : Shared} {ep : Nat} (st : Sw 0 s.heap)
    (hb : s.heap.get? B = some { cls := .type "list", dict := none, data := .seq #[] ep, slots := #[] })
    (fin : ∀ v h' tk, Pv (argBest bt (n - 1)) v → (∀ b o, b ∉ wr → b ≠ B → s.heap.get? b = some o → h'.get? b = some o) → Rz (.ok (.ret v)) { s with heap := h', toks := tk }) :
    codeAny (model prog w) A (.builtin "max.loop" ⟨[.ref it, .none, .ref B], kw⟩) Rz s := by
  have hBw : B ∉ wr := fun h => hB (Wk.sub _ h)
  refine codeAny_builtin PySem.F.entry_max_loop ?_
  rw [Around.under_plainId PySem.F.plain_max_loop _]
  refine wpAny_bind (wpAny_seqItems hb rfl ?_)
  refine wpAny_bind (wpAny_tryCatch (Wk.item 0 s _ _ hn st fun v h' tk pv st' kp => ?_))
  have hb' := kp B _ hBw hb
  show wpAny _ A.in1 (updateSeq B (fun _ => #[v, v]) >>= _) _ _ _
  refine wpAny_bind ?_
  refine wpAny_updateSeq hb' rfl ?_
  rw [mx_nm]
  refine wpAny_pure ⟨plainId_quiet PySem.F.plain_max_loop _, mx_more Wk bt cmp B hB kw _ 0 _ v _ rfl hn (Wk.frame _ _ _ st' fun b bf o e => (Heap.get?_update_other _ _ (fun h : B = b => hB (by rw [h]; exact bf))).trans e) pv (Heap.get?_update_self _ hb' rfl) fun v2 h2 tk2 p2 k2 => ?_⟩
  exact fin v2 h2 tk2 p2 fun b o h1 h3 e => k2 b o h1 h3 ((Heap.get?_update_other _ _ (Ne.symm h3)).trans (kp b o h1 e))
/-- nothing to look at: the default -/
theorem mx_none (Wk : Walks prog w A.in1 it fp wr 0 Pv Sw) (B : Addr) (hB : B ∉ fp) (d : Value) {s : Shared} {ep : Nat} (st : Sw 0 s.heap)
    (hb : s.heap.get? B = some { cls := .type "list", dict := none, data := .seq #[] ep, slots := #[] })
    (fin : ∀ h' tk, (∀ b o, b ∉ wr → s.heap.get? b = some o → h'.get? b = some o) → Rz (.ok (.ret d)) { s with heap := h', toks := tk }) :
    codeAny (model prog w) A (.builtin "max.loop" ⟨[.ref it, .none, .ref B], [(Str.ofString "default", d)]⟩) Rz s := by
  refine codeAny_builtin PySem.F.entry_max_loop ?_
  rw [Around.under_plainId PySem.F.plain_max_loop _]
  refine wpAny_bind (wpAny_seqItems hb rfl ?_)
  refine wpAny_bind (wpAny_tryCatch (Wk.done s _ _ st fun h' tk kp => ?_))
  refine wpAny_bind (wpAny_rule (wpAny_pure ?_))
  exact fin h' tk kp
end
/-- the greatest, or 0 of none -/
def lmx : List Int → Int
  | [] => 0
  | [a] => a
  | a :: b :: r => if lmx (b :: r) > a then lmx (b :: r) else a
theorem lmx_le : ∀ {ns : List Int} {a : Int}, a ∈ ns → a ≤ lmx ns
  | [b], a, h => by rw [List.mem_singleton.mp h]; exact Int.le_refl _
  | b :: c :: r, a, h => by
    unfold lmx
    rcases List.mem_cons.mp h with rfl | h
    · split <;> omega
    · have := lmx_le h
      split <;> omega
theorem lmx_in : ∀ {ns : List Int}, ns ≠ [] → lmx ns ∈ ns
  | [b], _ => by simp [lmx]
  | b :: c :: r, _ => by
    unfold lmx
    split
    · exact List.mem_cons_of_mem _ (lmx_in (by simp))
    · exact List.mem_cons_self
theorem lmx_eq {ns : List Int} {M : Int} (h : M ∈ ns) (hl : ∀ a, a ∈ ns → a ≤ M) : M = lmx ns := by
  have h1 := lmx_le h
  have h2 := hl _ (lmx_in (ns := ns) (fun e => by rw [e] at h; cases h))
  omega
section
variable {prog : Program} {w : World} {A : Around} {E : Value → Shared → Prop} {s : Shared}
theorem args_maxd (a v : Value) : argsOk "max" ⟨[a], [(Str.ofString "default", v)]⟩ := by unfold argsOk; kernel_rfl
/-- max(l, default=d) of ints -/
theorem max_dflt {l : Addr} {vs : List Value} {ns : List Int} {d : Value} {Q : Value → Shared → Prop} (hh : A.handled = none) (hl : s.heap.IsList l vs.toArray) (hi : IntsAre vs ns)
    (fin : ∀ v h' tk, (∀ b o, s.heap.get? b = some o → h'.get? b = some o) → (ns = [] → v = d) → (ns ≠ [] → ∃ t, v = .int (lmx ns) t) → Q v { s with heap := h', toks := tk }) :
    wpAny (model prog w) A (call (.builtin "max") [.ref l] [(Str.ofString "default", d)]) Q E s := by
  obtain ⟨xs, e⟩ := hi.allInts.items
  have hns : ns = xs.toList.map (·.1) := by rw [← hi.numsOf, ← nums_intItems, ← e]
  have hsz : ns.length = xs.size := by rw [hns, List.length_map, Array.length_toList]
  rw [e] at hl
  refine kmk_tree PySem.F.kind_max PySem.F.plain_max PySem.F.entry_max (args_maxd _ _) ?_
  refine wpAny_bind (wpAny_of_eq (show Builtin.Builtins.bindParams "max" ["key", "default"] 0 ⟨[], [(Str.ofString "default", d)]⟩ = pure [none, some d] from rfl) ?_)
  refine wpAny_bind (wpAny_pure ?_)
  refine wpAny_bind (iter_intList hl fun s₂ e2 st hfp hlI => ?_)
  subst e2
  refine wpAny_bind (wpAny_newObj_type ?_)
  have hSf : ∀ b ∈ [s.heap.objs.size, l], b < (s.heap.push { cls := .type "list_iterator", data := .fields #[.ref l, .int 0 0] }).objs.size := hfp
  have Wk := Walks.list (prog := prog) (w := w) (A := A.in1) hh _ l hlI (intItems xs)
  rw [mx_nm]
  refine wpAny_pure ⟨plainId_quiet PySem.F.plain_max_loop _, ?_⟩
  have hB : (s.heap.push { cls := .type "list_iterator", data := .fields #[.ref l, .int 0 0] }).objs.size ∉ [s.heap.objs.size, l] := fun hm => Nat.lt_irrefl _ (hSf _ hm)
  have old : ∀ b o, s.heap.get? b = some o → b ∉ [s.heap.objs.size] ∧ b ≠ (s.heap.push { cls := .type "list_iterator", data := .fields #[.ref l, .int 0 0] }).objs.size ∧ ((s.heap.push { cls := .type "list_iterator", data := .fields #[.ref l, .int 0 0] }).push (seqObj "list" #[] 0)).get? b = some o := fun b o eb => by
    have hlt := Heap.lt_size eb
    refine ⟨fun hm => absurd (List.mem_singleton.mp hm) (Nat.ne_of_lt hlt), ?_, Heap.get?_push_of_some _ (Heap.get?_push_of_some _ eb)⟩
    rw [Heap.size_push]; exact Nat.ne_of_lt (Nat.lt_succ_of_lt hlt)
  have hsi : (intItems xs).size = ns.length := by rw [hsz]; simp [intItems]
  by_cases h0 : ns = []
  · have hz : (intItems xs).size = 0 := by rw [hsi, h0]; rfl
    rw [hz] at Wk
    refine mx_none Wk _ hB d (Wk.frame _ _ _ st fun b _ o e => Heap.get?_push_of_some _ e) (Heap.get?_push_size _ rfl) fun h' tk kp => ?_
    exact fin d h' tk (fun b o eb => kp b o (old b o eb).1 (old b o eb).2.2) (fun _ => rfl) (fun h => absurd h0 h)
  · have hpos : 0 < xs.size := by rw [← hsz]; exact List.length_pos_iff.mpr h0
    refine mx_first Wk _ (CmpOf.ints_gt (numAt xs) (fun _ _ => intItems_at)) _ hB _ (by rw [hsi, hsz]; exact hpos) (Wk.frame _ _ _ st fun b _ o e => Heap.get?_push_of_some _ e) (Heap.get?_push_size _ rfl) fun v h' tk pv kp => ?_
    refine fin v h' tk (fun b o eb => kp b o (old b o eb).1 (old b o eb).2.1 (old b o eb).2.2) (fun h => absurd h h0) fun _ => ?_
    obtain ⟨t, rfl⟩ := intItems_at pv
    rw [hsi, hsz]
    obtain ⟨h1, h2⟩ := argBest_gt (numAt xs) (xs.size - 1)
    refine ⟨t, ?_⟩
    congr 1
    refine lmx_eq ?_ fun a ha => ?_
    · rw [hns, numAt_eq]; exact getD_mem (by rw [List.length_map, Array.length_toList]; omega)
    · rw [hns] at ha
      obtain ⟨j, hj, rfl⟩ := mem_getD ha
      rw [List.length_map, Array.length_toList] at hj
      rw [← numAt_eq]; exact h2 j (by omega)
end
section
variable {X : Cx} {M : MX} {e : Expr} {es : List Expr} {fa : FE} {pos p kpos pos' : Pos}
def rMaxDf (K : PySem.W.Frag) : List V → List V → Hp → VK → Prop := fun vs zs H Q => ∃ (a : Addr) (ns : List Int) (i : Int), vs = [V.ref a] ∧ zs = [V.int i] ∧ SqL K H a (ns.map V.int) ∧ Q (.int (if ns = [] then i else lmx ns)) H
theorem cr_maxDf (hc : X.calm = true) : CallRK X (.builtin "max") [Str.ofString "default"] (rMaxDf X.K) := by
  intro pins s σ H vs zs us ws Q I r rz h
  obtain ⟨a, ns, i, rfl, rfl, hs, q⟩ := h
  obtain rfl := Vals.ref1 r
  obtain ⟨w1, rfl, ⟨t1, rfl⟩⟩ := vals1 rz
  obtain ⟨its, rv, hl, _⟩ := I.list hs
  refine max_dflt (I.ok.hd hc) hl.isList rv.ints fun v h' tk hk h1 h2 => ?_
  refine ⟨.int _, H, I.kept hk, ?_, q⟩
  by_cases h0 : ns = []
  · rw [if_pos h0, h1 h0]; exact ⟨_, rfl⟩
  · rw [if_neg h0]
    obtain ⟨t, rfl⟩ := h2 h0
    exact ⟨_, rfl⟩
/-- max(xs, default=i) -/
def rMaxD (i : Int) (x : D) (O : Ow) (Q : VD) : Prop := match deref O x with
  | .lst ds => match asInts ds with
    | some ns => Q (.int (if ns = [] then i else lmx ns)) O
    | none => False
  | _ => False
def fMaxD (i : Int) (fa : FE) : FE := fun ρ O Q => fa ρ O fun x O1 => rMaxD i x O1 Q
theorem de_maxD {i : Int} {j : Nat} (hc : X.calm = true) (hg : Gl X "max") (hm : X.mg "max" = none) (hv : bootBuiltins "max" = some (.builtin "max")) (ha : DE M X e fa)
    (hs : starEach [e] X.env = (false, eval e X.env) :: starEach [] X.env := by rfl)
    (he : backTo pos (starEach [e] X.env) = (false, eval e X.env) :: backTo pos (starEach [] X.env) := by rfl) (hpl : (backTo pos (starEach [e] X.env)).any (·.1) = false := by rfl) :
    DE M X (.Call (.Name "max" p) [e] [⟨some "default", .Constant (.int i) j pos', kpos⟩] pos) (fMaxD i fa) := by
  refine peMono (pe_callBK (cr_maxDf hc) hg hm hv (pa_cons ha pa_nil hs) (pk_cons pe_int pk_nil) (by decide) (by decide) he hpl) fun σ H Q h => ?_
  obtain ⟨F, O, P, ρ, R, g, en, q, po⟩ := h
  refine ⟨F, O, P, ρ, _, g, en, q, fun x O1 F1 H1 v q1 s1 g1 r1 => ?_⟩
  have h1 := g1.deref r1
  unfold rMaxD at q1
  revert q1 h1
  generalize Kf.deref O1 x = ex
  intro q1 h1
  cases ex <;> first | exact q1.elim | skip
  rename_i ds
  obtain ⟨c, xs, rfl, h1, h2⟩ := h1
  dsimp only at q1
  cases e0 : asInts ds with
  | none => rw [e0] at q1; exact q1.elim
  | some ns =>
    rw [e0] at q1
    rw [of_asInts e0] at h2
    have e3 := h2.ints
    subst e3
    exact ⟨c, ns, i, rfl, rfl, SqL.of h1, (po.more s1).at g1 q1 (by simp only [Rep])⟩
/-- max(xs) -/
def rMaxL : RAD := fun ds O Q => match ds with
  | [x] => match deref O x with
    | .lst ds => match asInts ds with
      | some ns => ns ≠ [] ∧ Q (.int (lmx ns)) O
      | none => False
    | _ => False
  | _ => False
theorem cd_maxL (hc : X.calm = true) : CallD M X (.builtin "max") rMaxL := by
  refine callD_of fun F P H O xs ds R Q g r1 q po => ?_
  match ds, q with
  | [x], q =>
    obtain ⟨v, rfl, r1'⟩ := r1.one'
    have h1 := g.deref r1'
    unfold rMaxL at q
    dsimp only at q
    revert q h1
    generalize Kf.deref O x = ex
    intro q h1
    cases ex <;> first | exact q.elim | skip
    rename_i ds
    obtain ⟨c, xs, rfl, h1, h2⟩ := h1
    dsimp only at q
    cases e : asInts ds with
    | none => rw [e] at q; exact q.elim
    | some ns =>
      rw [e] at q
      rw [of_asInts e] at h2
      have e3 := h2.ints
      subst e3
      exact ⟨_, cr_max hc, c, ns, rfl, SqL.of h1, List.length_pos_iff.mpr q.1, fun m k1 k2 => by
        obtain rfl := lmx_eq k1 k2
        exact po.at g q.2 (by simp only [Rep])⟩
theorem ap_fMaxD (i : Int) (fa : FE) {ρ : DEnv} {O : Ow} {Q : VD} : fMaxD i fa ρ O Q = fa ρ O fun x O1 => rMaxD i x O1 Q := rfl
theorem rMaxD_l {i : Int} {ns : List Int} {O : Ow} {Q : VD} : rMaxD i (.lst (ns.map .int)) O Q = Q (.int (if ns = [] then i else lmx ns)) O := by
  simp only [rMaxD, deref, asInts_map]
theorem rMaxL_l {ns : List Int} {O : Ow} {Q : VD} : rMaxL [.lst (ns.map .int)] O Q = (ns ≠ [] ∧ Q (.int (lmx ns)) O) := by
  simp only [rMaxL, deref, asInts_map]
end
end Kf
/-! Dl17: defs with one default, None; walks along a list, owned or not. -/
namespace Kf
open PySem PySem.Spec L2
open PyProof.Rows hiding St
/-- a def of the text with one default, None -/
structure FnD (K : PySem.W.Frag) (mg : Str → Option Value) (x : Str) (st : Stmt) (ps : List Str) (f : Addr) (fd : FuncData) : Prop where
  F : FunD K x x (defArgs st) (defBody st) (defScope st) [V.non] [] f fd
  m : mg x = some (.ref f)
  b : Binds K fd ps []
  b1 : ∃ ds, Vals [V.non] ds ∧ Binds K fd ps ds
section
variable {X : Cx} {M : MX} {RX : XW} {W : WX} {e : Expr} {es : List Expr} {fr : FA} {k : Nat} {f : Addr} {fd : FuncData} {ps : List Str} {dsp : DSp} {x : Str} {st : Stmt} {p pos : Pos}
theorem de_callXd (N : FnD X.K X.mg x st ps f fd) (G : FnOk X.prog X.w X.K X.mg X.base (L2.CX X.prog X.w) k f fd ps (liftSp X.K dsp)) (hr : Room k X.A) (tk : Takes X W) (hg : Gl X x) (ha : DA (mxw X.K RX W) X (e :: es) fr)
    (hdb : (x == ("__debug__" : Str)) = false := by decide) (he : starEach (e :: es) X.env = (false, eval e X.env) :: starEach es X.env := by rfl) (hpl : (backTo pos (starEach es X.env)).any (·.1) = false := by rfl) :
    DE (mxw X.K RX W) X (.Call (.Name x p) (e :: es) [] pos) (fCallX dsp RX fr) := peMono (pe_callS G hr hg N.m N.F.kp N.b (fun σ => passAt tk σ) ha hdb he hpl) fun σ H Q h => by
  obtain ⟨F, O, P, ρ, R, g, en, q, po⟩ := h
  refine ⟨F, O, P, ρ, _, g, en, q, fun ds O1 F1 H1 vs q1 s1 g1 r1 => ?_⟩
  refine ⟨F1, O1, P, ds, R, _, g1.mt, r1, q1, po.mt g1 s1, fun cls fs O' F' H' dd q2 s2 g2 xd => ?_⟩
  exact (g2.re ((mxw X.K RX W).mono g1.rl s2 (Same.refl _))).wish q2 xd (en.mono (s1.trans s2))
/-- a call without the last argument -/
def fCallXD (dsp : DSp) (RX : XW) (fr : FA) : FE := fun ρ O Q => fr ρ O fun ds O1 => dsp (ds ++ [.non]) O1 Q fun cls fs O' => RX cls fs ρ O'
theorem ap_fCallXD (dsp : DSp) (RX : XW) (fr : FA) {ρ : DEnv} {O : Ow} {Q : VD} : fCallXD dsp RX fr ρ O Q = fr ρ O fun ds O1 => dsp (ds ++ [.non]) O1 Q fun cls fs O' => RX cls fs ρ O' := rfl
end
section
variable {P : Program} {w : World} {K : PySem.W.Frag} {mg : Str → Option Value} {base : Heap}
theorem fn_dXD {x qual : Str} {st : Stmt} {f : Addr} {fd : FuncData} {N ps : List Str} {k : Nat} {dsp : DSp} {g : XW → GS} (F : FunD K x qual (defArgs st) (defBody st) (defScope st) [V.non] [] f fd) (S : FnScope N ps (defScope st)) (len : ∀ ds O R RE, dsp ds O R RE → ds.length = ps.length)
    (hder : ∀ (RX : XW) (W : WX) (cdv : Value) (A : Around) (outer : List Env) (s : Shared) (H : Hp) (E : XK), Takes (cxOf (L2.CX P w) P w K mg base N qual (defScope st) f cdv A outer s H E) W →
      PassesOwn (model (cxOf (L2.CX P w) P w K mg base N qual (defScope st) f cdv A outer s H E).prog (cxOf (L2.CX P w) P w K mg base N qual (defScope st) f cdv A outer s H E).w) (cxOf (L2.CX P w) P w K mg base N qual (defScope st) f cdv A outer s H E).A (cxOf (L2.CX P w) P w K mg base N qual (defScope st) f cdv A outer s H E).env (cxOf (L2.CX P w) P w K mg base N qual (defScope st) f cdv A outer s H E).xe →
      Room k (A.deeper (envOfC qual (defScope st) s.heap.objs.size f cdv)) →
      DSs (mxw K RX W) (cxOf (L2.CX P w) P w K mg base N qual (defScope st) f cdv A outer s H E) (defBody st) (g RX))
    (hread : ∀ ds O R RE, dsp ds O R RE → g (XG RE) { nx := fun _ O' => VG R .non O', rt := VG R } (startD N ds) O) : FnOk P w K mg base (L2.CX P w) (k + 1) f fd ps (liftSp K dsp) := by
  refine F.ok S (fun vs H Q E h => ?_) fun cdv A outer s H vs Q E hr h => ?_
  · obtain ⟨F, O, P, ds, R, RE, g, r, q, _⟩ := h
    rw [← r.length]; exact len ds O R RE q
  · obtain ⟨F, O, P', ds, R, RE, gd, r, q, po, px⟩ := h
    have tk : Takes (cxOf (L2.CX P w) P w K mg base N qual (defScope st) f cdv A outer s H E) (fun cls d _ H => E cls d H) := takes_of rfl rfl rfl rfl
    refine ⟨_, hder (XG RE) _ cdv A outer s H E tk (passes_of rfl) hr, F, O, P', startD N ds, { nx := fun _ O' => VG R .non O', rt := VG R }, gd.re ⟨P', Same.refl _, fun cls fs ρ O' F' H' dd σ q1 s1 g1 xd _ => ?_⟩, ?_, hread ds O R RE q, ⟨fun ρ O' F' H' σ q1 s1 g1 _ => ?_, fun d O' F' H' v q1 s1 g1 r1 => ?_, fun _ _ _ _ _ z => z.elim, fun _ _ _ _ _ z => z.elim⟩⟩
    · obtain ⟨O2, s2, q2⟩ := q1
      exact px cls fs O2 F' H' dd q2 s1 (g1.sub s2) xd
    · unfold startD L2.start
      rw [r.length]
      exact envOk_start _ r
    · obtain ⟨O2, s2, q2⟩ := q1
      exact po .non O2 F' H' .non q2 s1 (g1.mt.sub s2) (by simp only [Rep])
    · obtain ⟨O2, s2, q2⟩ := q1
      exact po d O2 F' H' v q2 s1 (g1.mt.sub s2) r1
end
/-! ### for over a list, owned or not, that stays -/
section
variable {X : Cx} {M : MX} {l tg : Expr} {fl : FE} {pos : Pos}
def forE (x : D) (all : List D) (p : Pat) (gb : GS) (R : DEnds) : List D → DEnv → Ow → Prop
  | [], ρ, O => deref O x = .lst all ∧ R.nx ρ O
  | d :: ds, ρ, O => deref O x = .lst all ∧ patGet (patD p d ρ) fun ρ1 => gb { R with nx := forE x all p gb R ds, ct := forE x all p gb R ds, bk := R.nx } ρ1 O
def asLE (x : D) (O : Ow) (Q : List D → Prop) : Prop := match deref O x with
  | .lst ds => Q ds
  | _ => False
def gForE (fl : FE) (p : Pat) (gb : GS) : GS := fun R ρ O => fl ρ O fun x O1 => asLE x O1 fun ds => forE x ds p gb R ds ρ O1
theorem ap_gForE (fl : FE) (p : Pat) (gb : GS) {R : DEnds} {ρ : DEnv} {O : Ow} : gForE fl p gb R ρ O = fl ρ O fun x O1 => asLE x O1 fun ds => forE x ds p gb R ds ρ O1 := rfl
theorem asLE_l {ds : List D} {O : Ow} {Q : List D → Prop} : asLE (.lst ds) O Q = Q ds := rfl
theorem ds_forE {body : List Stmt} {p : Pat} {gb : GS} (hp : PassesOwn (model X.prog X.w) X.A X.env X.xe) (hc : X.calm = true) (hl : DE M X l fl) (hg : DP X tg p) (hb : DSs M X body gb)
    (hs : ∀ x, foldedSetIterable l X.env x = pure x := by intro _; rfl) : DS M X (.For tg l body [] pos) (gForE fl p gb) := psMono (ps_for hp hc (pi_list hl) hg hb hs) fun D σ H h => by
  obtain ⟨F, O, P, ρ, R, g, en, q, po⟩ := h
  refine ⟨F, O, P, ρ, _, g, en, q, fun x O1 F1 H1 v q1 s1 g1 r1 => ?_⟩
  have at' : ∀ {F2 : Hp} {O2 : Ow} {P2 H2 : Hp} {ds : List Kf.D}, Same F1 F2 → Gd M X.K F2 O2 P2 H2 → deref O2 x = .lst ds → ∃ c ws, v = V.ref c ∧ SqL X.K H2 c ws ∧ RepAll X.K F2 ds ws := by
    intro F2 O2 P2 H2 ds s2 g2 e2
    have h1 := g2.deref (r1.mono s2)
    rw [e2] at h1
    obtain ⟨c, xs, e3, h2, h3⟩ := h1
    exact ⟨c, xs, e3, SqL.of h2, h3⟩
  unfold asLE at q1
  split at q1 <;> first | exact q1.elim | skip
  rename_i ds e
  obtain ⟨c, vs, rfl, h1, h2⟩ := at' (Same.refl _) g1 e
  refine ⟨c, rfl, ⟨vs, h1⟩, ?_⟩
  refine ⟨fun i m σ H => ∃ F2 O2 ρ2, i + m = ds.length ∧ Same F1 F2 ∧ Gd M X.K F2 O2 P H ∧ EnvOk X.K F2 ρ2 σ ∧ forE x ds p gb R (ds.drop i) ρ2 O2,
    ⟨ds.length, F1, O1, ρ, by omega, Same.refl _, g1, en.mono s1, by rw [List.drop_zero]; exact q1⟩, fun i m σ2 H2 hW => ?_⟩
  obtain ⟨F2, O2, ρ2, hm, s2, g2, en2, q2⟩ := hW
  by_cases hi : i < ds.length
  · rw [List.drop_eq_getElem_cons hi] at q2
    unfold forE at q2
    obtain ⟨e2, q2⟩ := q2
    obtain ⟨c2, ws, e4, sq, h4⟩ := at' s2 g2 e2
    cases e4
    obtain ⟨w, e3, r3⟩ := h4.get (List.getElem?_eq_getElem hi)
    refine .inr ⟨⟨ws, w, sq, e3⟩, fun σ' H' => ∃ F3 O3 ρ3, Same F1 F3 ∧ Gd M X.K F3 O3 P H' ∧ EnvOk X.K F3 ρ3 σ' ∧ forE x ds p gb R (ds.drop (i + 1)) ρ3 O3, fun σ' H' hN => ?_, fun y H' hyy => ?_⟩
    · obtain ⟨F3, O3, ρ3, s3, g3, en3, q3⟩ := hN
      exact ⟨m - 1, by omega, F3, O3, ρ3, by omega, s3, g3, en3, q3⟩
    · obtain ⟨rfl, hx⟩ := hyy
      have hxx := hx ws sq
      rw [e3] at hxx
      cases hxx
      cases e1 : patD p ds[i] ρ2 with
      | none => rw [e1] at q2; exact q2.elim
      | some ρ3 =>
        rw [e1] at q2
        refine pat_ok g2 p ds[i] _ ρ2 ρ3 σ2 _ e1 r3 en2 fun σ4 en4 _ => ?_
        refine ⟨F2, O2, P, ρ3, _, g2, en4, q2, ⟨fun ρ5 O5 F5 H5 σ5 q5 s5 g5 en5 => ?_, ?_, ?_, fun ρ5 O5 F5 H5 σ5 q5 s5 g5 en5 => ?_⟩⟩
        · exact ⟨F5, O5, ρ5, s2.trans s5, g5, en5, q5⟩
        · exact po.rt.more (s1.trans s2)
        · exact po.nx.more (s1.trans s2)
        · exact ⟨F5, O5, ρ5, s2.trans s5, g5, en5, q5⟩
  · rw [List.drop_eq_nil_of_le (by omega)] at q2
    unfold forE at q2
    obtain ⟨c2, ws, e4, sq, h4⟩ := at' s2 g2 q2.1
    cases e4
    refine .inl ⟨⟨ws, sq, by rw [← h4.length]; omega⟩, ?_⟩
    exact po.nx ρ2 O2 F2 H2 σ2 q2.2 (s1.trans s2) g2 en2
end
end Kf
/-! Dl18: walks along the keys of an owned dict. -/
namespace Kf
open PySem PySem.Spec L2
open PyProof.Rows hiding St
variable {M : MX}
/-! ### [.. for k in d] -/
def lcK (a : Addr) (c : Cell) (p : Pat) (ft : FT) (fe : FE) (ρ : DEnv) : List D → List D → Ow → (List D → Ow → Prop) → Prop
  | [], acc, O, Q => O a = some c ∧ Q acc O
  | d :: ds, acc, O, Q => O a = some c ∧ patGet (patD p d ρ) fun ρ1 => ft ρ1 O fun b O1 => if b = true then fe ρ1 O1 fun e O2 => acc.length < sizeLine ∧ lcK a c p ft fe ρ ds (acc ++ [e]) O2 Q else lcK a c p ft fe ρ ds acc O1 Q
def asDc (o : Option (Option D)) (O : Ow) (N : Addr → List (Key × D) → Prop) : Prop := match o with
  | some (some (.ref a)) => match O a with
    | some (.dic kvs) => N a kvs
    | _ => False
  | _ => False
def keysD (kvs : List (Key × D)) : List D := kvs.map fun kv => keyD kv.1
def fLcK (i : Nat) (p : Pat) (ft : FT) (fe : FE) (vs : List Nat) : FE := fun ρ O Q => asDc ρ[i]? O fun a kvs =>
  ∀ o, lcK a (.dicL kvs o) p ft fe (wipeD ρ vs) (keysD kvs) [] (updO O a (.dicL kvs o)) fun acc O2 => Q (.lst acc) (updO O2 a (.dic kvs))
section
variable {X : Cx} {elt tg iter : Expr} {ifs : List Expr} {scope : Scope} {own : List (Str × Nat)} {pos : Pos} {p : Pat} {ft : FT} {fe : FE}
end
theorem ap_fLcK (i : Nat) (p : Pat) (ft : FT) (fe : FE) (vs : List Nat) {ρ : DEnv} {O : Ow} {Q : VD} : fLcK i p ft fe vs ρ O Q = asDc ρ[i]? O fun a kvs =>
  ∀ o, lcK a (.dicL kvs o) p ft fe (wipeD ρ vs) (keysD kvs) [] (updO O a (.dicL kvs o)) fun acc O2 => Q (.lst acc) (updO O2 a (.dic kvs)) := rfl
/-! ### for k in d -/
def endsK (a : Addr) (c : Cell) (kvs : List (Key × D)) (R : DEnds) (N : DEnv → Ow → Prop) : DEnds :=
  { nx := N, ct := N, bk := fun ρ O => O a = some c ∧ R.nx ρ (updO O a (.dic kvs)), rt := fun d O => O a = some c ∧ R.rt d (updO O a (.dic kvs)) }
def forK (a : Addr) (c : Cell) (kvs : List (Key × D)) (p : Pat) (gb : GS) (R : DEnds) : List D → DEnv → Ow → Prop
  | [], ρ, O => O a = some c ∧ R.nx ρ (updO O a (.dic kvs))
  | d :: ds, ρ, O => O a = some c ∧ patGet (patD p d ρ) fun ρ1 => gb (endsK a c kvs R (forK a c kvs p gb R ds)) ρ1 O
def gForK (i : Nat) (p : Pat) (gb : GS) : GS := fun R ρ O => asDc ρ[i]? O fun a kvs => ∀ o, forK a (.dicL kvs o) kvs p gb R (keysD kvs) ρ (updO O a (.dicL kvs o))
theorem ap_gForK (i : Nat) (p : Pat) (gb : GS) {R : DEnds} {ρ : DEnv} {O : Ow} : gForK i p gb R ρ O = asDc ρ[i]? O fun a kvs => ∀ o, forK a (.dicL kvs o) kvs p gb R (keysD kvs) ρ (updO O a (.dicL kvs o)) := rfl
section
variable {X : Cx} {tg iter : Expr} {pos : Pos}
end
end Kf
/-! Dl19: dict(pairs). -/
namespace Kf
open PySem PySem.Spec L2
open PyProof.Rows hiding St
variable {M : MX}
section
variable {X : Cx}
end
/-! ### xs or ys, of lists -/
section
variable {X : Cx} {a b : Expr} {fa fb : FE} {rest : List Expr} {pos : Pos}
def rOrL (x : D) (O : Ow) (N : List D → Prop) : Prop := match deref O x with
  | .lst ds => N ds
  | _ => False
def fOrL (fa fb : FE) : FE := fun ρ O Q => fa ρ O fun x O1 => rOrL x O1 fun ds => if ds.isEmpty = true then fb ρ O1 Q else Q x O1
end
theorem ap_fOrL (fa fb : FE) {ρ : DEnv} {O : Ow} {Q : VD} : fOrL fa fb ρ O Q = fa ρ O fun x O1 => rOrL x O1 fun ds => if ds.isEmpty = true then fb ρ O1 Q else Q x O1 := rfl
theorem rOrL_l {ds : List D} {O : Ow} {N : List D → Prop} : rOrL (.lst ds) O N = N ds := rfl
end Kf
/-! Dl20: tables of the module, unpacking of lists, ranges with a step. -/
namespace Kf
open PySem PySem.Spec L2
open PyProof.Rows hiding St
variable {M : MX}
/-! ### a table of texts by texts, of the module -/
def CDic (K : PySem.W.Frag) (w : World) (mg : Str → Option Value) (x : Str) (tab : List (Str × Str)) : Prop :=
  ∃ d es n, mg x = some (.ref d) ∧ KDict K w d es n ∧ Paired (fun (e : DictEntry) (q : Str × Str) => (∃ t, e.key = .str q.1 t) ∧ ∃ t, e.val = .str q.2 t) es.toList tab
def tabF (tab : List (Str × Str)) (z : Str) : Option Str := (tab.find? fun q => decide (q.1 = z)).map (·.2)
theorem find_tab {es : List DictEntry} {tab : List (Str × Str)} (h : Paired (fun (e : DictEntry) (q : Str × Str) => (∃ t, e.key = .str q.1 t) ∧ ∃ t, e.val = .str q.2 t) es tab) (z : Str) :
    (tabF tab z = none ∧ (es.find? fun e => Value.isStrOf z e.key).map (·.val) = none) ∨ ∃ y t, tabF tab z = some y ∧ (es.find? fun e => Value.isStrOf z e.key).map (·.val) = some (.str y t) := by
  induction h with
  | nil => exact .inl ⟨rfl, rfl⟩
  | @cons e q es qs a _ ih =>
    obtain ⟨⟨t, ek⟩, t2, ev⟩ := a
    have hs : Value.isStrOf z e.key = decide (q.1 = z) := by
      rw [ek]
      show (q.1 == z) = _
      exact str_beq ..
    unfold tabF at ih ⊢
    rw [List.find?_cons, List.find?_cons, hs]
    by_cases c : q.1 = z
    · rw [decide_eq_true c]
      exact .inr ⟨q.2, t2, rfl, by simp [ev]⟩
    · rw [decide_eq_false c]
      exact ih
section
variable {X : Cx} {x : Str} {tab : List (Str × Str)} {e i a : Expr} {fe fi fa : FE} {pos pos' apos cpos p2 : Pos}
theorem CDic.map {d : Addr} {es : Array DictEntry} {n : Nat} (D : KDict X.K X.w d es n) (hp : Paired (fun (e : DictEntry) (q : Str × Str) => (∃ t, e.key = .str q.1 t) ∧ ∃ t, e.val = .str q.2 t) es.toList tab) (z : Str) :
    (tabF tab z = none ∧ findBy Value.isStrOf es z = none) ∨ ∃ y t, tabF tab z = some y ∧ findBy Value.isStrOf es z = some (.str y t) := by
  have h := find_tab hp z
  obtain ⟨l⟩ := es
  unfold findBy
  rw [List.find?_toArray]
  exact h
def tabD (tab : List (Str × Str)) (z : Str) : D := match tabF tab z with
  | some y => .str y
  | none => .non
def asStr (d : D) (N : Str → Prop) : Prop := match d with
  | .str z => N z
  | _ => False
/-- T.get(w) -/
def fKGet (tab : List (Str × Str)) (fe : FE) : FE := fun ρ O Q => fe ρ O fun d O1 => asStr d fun z => Q (tabD tab z) O1
theorem ap_fKGet (tab : List (Str × Str)) (fe : FE) {ρ : DEnv} {O : Ow} {Q : VD} : fKGet tab fe ρ O Q = fe ρ O fun d O1 => asStr d fun z => Q (tabD tab z) O1 := rfl
theorem asStr_s {z : Str} {N : Str → Prop} : asStr (.str z) N = N z := rfl
/-- w in T -/
def fKIn (tab : List (Str × Str)) (fa : FE) : FE := fun ρ O Q => fa ρ O fun d O1 => asStr d fun z => Q (.bl (tabF tab z).isSome) O1
theorem ap_fKIn (tab : List (Str × Str)) (fa : FE) {ρ : DEnv} {O : Ow} {Q : VD} : fKIn tab fa ρ O Q = fa ρ O fun d O1 => asStr d fun z => Q (.bl (tabF tab z).isSome) O1 := rfl
/-- T[w] -/
def asSome (o : Option Str) (N : Str → Prop) : Prop := match o with
  | some y => N y
  | none => False
def fKIx (tab : List (Str × Str)) (fi : FE) : FE := fun ρ O Q => fi ρ O fun d O1 => asStr d fun z => asSome (tabF tab z) fun y => Q (.str y) O1
theorem ap_fKIx (tab : List (Str × Str)) (fi : FE) {ρ : DEnv} {O : Ow} {Q : VD} : fKIx tab fi ρ O Q = fi ρ O fun d O1 => asStr d fun z => asSome (tabF tab z) fun y => Q (.str y) O1 := rfl
end
/-! ### (a, b, ..) = a list -/
section
variable {X : Cx} {e : Expr} {es : List Expr} {fe : FE} {pos p2 : Pos}
def rUnl (d : D) (O : Ow) (N : List D → Prop) : Prop := match deref O d with
  | .lst ds => N ds
  | _ => False
def gAsgL (fe : FE) (ps : List Pat) : GS := fun R ρ O => fe ρ O fun d O1 => rUnl d O1 fun ds => patGet (patDs ps ds ρ) fun ρ' => R.nx ρ' O1
theorem ap_gAsgL (fe : FE) (ps : List Pat) {R : DEnds} {ρ : DEnv} {O : Ow} : gAsgL fe ps R ρ O = fe ρ O fun d O1 => rUnl d O1 fun ds => patGet (patDs ps ds ρ) fun ρ' => R.nx ρ' O1 := rfl
theorem rUnl_l {ds : List D} {O : Ow} {N : List D → Prop} : rUnl (.lst ds) O N = N ds := rfl
end
/-! ### range(i, j, c) -/
section
variable {X : Cx} {tg a b c : Expr} {fr : FA} {p pos : Pos}
def rangeC (lo c : Int) (n : Nat) : List D := (List.range n).map fun i => .int (lo + (i : Nat) * c)
theorem itOk_rangeC {K : PySem.W.Frag} {F : Hp} (lo c : Int) (n : Nat) : ItOk M K F (Itc lo c n) (rangeC lo c n) := fun F2 O2 P2 H2 s2 g2 i => by
  refine ⟨fun d e => ?_, fun hi => ?_⟩
  · unfold rangeC at e
    rw [List.getElem?_map] at e
    obtain ⟨j, e1, rfl⟩ := Option.map_eq_some_iff.mp e
    obtain ⟨h1, h2⟩ := List.getElem?_eq_some_iff.mp e1
    rw [List.getElem_range] at h2
    subst h2
    rw [List.length_range] at h1
    refine ⟨h1, fun x H3 hy => ?_⟩
    obtain ⟨rfl, rfl⟩ := hy
    exact ⟨F2, Same.refl _, g2, by simp only [Rep]⟩
  · unfold rangeC at hi
    rw [List.length_map, List.length_range] at hi
    exact hi
def asR3 (ds : List D) (O : Ow) (Q : List D → Ow → Prop) : Prop := match ds with
  | [.int i, .int j, .int c] => ∃ n, RgC i j c n ∧ Q (rangeC i c n) O
  | _ => False
def fiRng3 (fr : FA) : FI := fun ρ O Q => fr ρ O fun ds O1 => asR3 ds O1 Q
theorem di_range3 (hg : Gl X "range") (hm : X.mg "range" = none) (ha : DA M X [a, b, c] fr)
    (hs : starEach [a, b, c] X.env = (false, eval a X.env) :: starEach [b, c] X.env := by rfl) (hpl : (backTo pos (starEach [b, c] X.env)).any (·.1) = false := by rfl) :
    DI M X tg (.Call (.Name "range" p) [a, b, c] [] pos) (fiRng3 fr) := piMono (pi_range3 hg hm ha hs hpl) fun σ H Q h => by
  obtain ⟨F, O, P, ρ, R, g, en, q, po⟩ := h
  refine ⟨F, O, P, ρ, _, g, en, q, fun ds O1 F1 H1 vs q1 s1 g1 r1 => ?_⟩
  unfold asR3 at q1
  split at q1
  · rename_i i j k
    obtain ⟨n, h1, h2⟩ := q1
    simp only [RepAll, Rep] at r1
    obtain ⟨_, _, rfl, rfl, _, _, rfl, rfl, _, _, rfl, rfl, rfl⟩ := r1
    exact ⟨i, j, k, n, rfl, h1, po _ O1 F1 H1 _ h2 s1 g1 (itOk_rangeC _ _ _)⟩
  · exact q1.elim
theorem ap_fiRng3 (fr : FA) {ρ : DEnv} {O : Ow} {Q : List D → Ow → Prop} : fiRng3 fr ρ O Q = fr ρ O fun ds O1 => asR3 ds O1 Q := rfl
theorem asR3_i {i j c : Int} {O : Ow} {Q : List D → Ow → Prop} : asR3 [.int i, .int j, .int c] O Q = ∃ n, RgC i j c n ∧ Q (rangeC i c n) O := rfl
end
/-! ### a text split, the list changes -/
section
variable {X : Cx}
def rSplitO : RMD := fun x ds O Q => match x, ds with
  | .str a, [.str b] => (b.length == 0) = false ∧ a.length + 2 ≤ sizeLine ∧ ∀ p, O p = none → Q (.ref p) (updO O p (.lst ((Txt.split a b).map .str)))
  | _, _ => False
theorem rSplitO_s {a b : Str} {O : Ow} {Q : VD} : rSplitO (.str a) [.str b] O Q = ((b.length == 0) = false ∧ a.length + 2 ≤ sizeLine ∧ ∀ p, O p = none → Q (.ref p) (updO O p (.lst ((Txt.split a b).map .str)))) := rfl
end
end Kf
/-! Dl21: enumerate(tuple). -/
namespace PySem
open Sem (wp)
open AutoSeq1 (wpAny_loadPart')
end PySem
namespace Kf
open PySem PySem.Spec L2
open PyProof.Rows hiding St
def asT1 (ds : List D) (O : Ow) (Q : List D → Ow → Prop) : Prop := match ds with
  | [.tup ds] => Q ds O
  | _ => False
def fiEnumT (fr : FA) : FI := fun ρ O Q => fr ρ O fun ds O1 => asT1 ds O1 fun ds O2 => Q (enumD ds) O2
section
variable {M : MX} {X : Cx} {fr : FA} {pos : Pos}
end
theorem ap_fiEnumT (fr : FA) {ρ : DEnv} {O : Ow} {Q : (List D → Ow → Prop)} : fiEnumT fr ρ O Q = (fr ρ O fun ds O1 => asT1 ds O1 fun ds O2 => Q (enumD ds) O2) := rfl
theorem asT1_t {ds : List D} {O : Ow} {Q : List D → Ow → Prop} : asT1 [.tup ds] O Q = Q ds O := rfl
end Kf
/-! Dl22: a finer room: one frame for each call. -/
namespace Kf
open PySem PySem.Spec L2
open PyProof.Rows hiding St
structure RoomT (k : Nat) (A : Around) : Prop where
  hd : A.handled = none
  dp : A.depth + k + 5 < recursionLimit
  un : A.units + 5 * k + 200 < cLine
theorem RoomT.deeper {k : Nat} {A : Around} (r : RoomT (k + 1) A) (env : Env) : RoomT k (A.deeper env) :=
  ⟨r.hd, by have := r.dp; show A.depth + 1 + k + 5 < _; omega, by have := r.un; show A.units + 3 + 5 * k + 200 < _; omega⟩
theorem RoomT.depth {k : Nat} {A : Around} (r : RoomT k A) : A.depth < recursionLimit := by have := r.dp; omega
theorem RoomT.u200 {k : Nat} {A : Around} (r : RoomT k A) : A.units + 200 < cLine := by have := r.un; omega
theorem RoomT.to {j k : Nat} {A : Around} (r : RoomT k A) (h : 4 * j ≤ k) : Room j A := ⟨r.hd, by have := r.dp; omega, by have := r.un; omega⟩
theorem RoomT.of {j k : Nat} {A : Around} (r : Room j A) (h : k ≤ 3 * j) : RoomT k A := ⟨r.hd, by have := r.dp; omega, by have := r.un; omega⟩
theorem RoomT.mono {j k : Nat} {A : Around} (r : RoomT k A) (h : j ≤ k) : RoomT j A := ⟨r.hd, by have := r.dp; omega, by have := r.un; omega⟩
/-- a def's promise by the finer room -/
structure FnT (P : Program) (w : World) (K : PySem.W.Frag) (mg : Str → Option Value) (base : Heap) (CX : CXT) (k : Nat) (f : Addr) (fd : FuncData) (ps : List Str) (sp : Sp) : Prop where
  len : ∀ vs H Q E, sp vs H Q E → vs.length = ps.length
  run : ∀ (A : Around) (outer : List Env) (s : Shared) (H : Hp) (args : Args) (us : List Value) (vs : List V) (Q : VK) (E : XK), RoomT k A → Env0 P w K mg base A outer s H → BindsTo s fd args (ps.zip us) → Vals vs us → sp vs H Q E →
    codeAny (model P w) A (.call (.ref f) args) (CR CX outer P w H s Q E) s
section
variable {P : Program} {w : World} {K : PySem.W.Frag} {mg : Str → Option Value} {base : Heap} {CX : CXT} {f : Addr} {fd : FuncData} {ps : List Str} {sp : Sp}
theorem FnT.of {j k : Nat} (F : FnOk P w K mg base CX j f fd ps sp) (h : 4 * j ≤ k) : FnT P w K mg base CX k f fd ps sp :=
  ⟨F.len, fun A outer s H args us vs Q E hr => F.run A outer s H args us vs Q E (hr.to h)⟩
theorem FnT.ok {j k : Nat} (F : FnT P w K mg base CX k f fd ps sp) (h : k ≤ 3 * j) : FnOk P w K mg base CX j f fd ps sp :=
  ⟨F.len, fun A outer s H args us vs Q E hr => F.run A outer s H args us vs Q E (.of hr h)⟩
theorem FnT.mono {j k : Nat} (F : FnT P w K mg base CX j f fd ps sp) (h : j ≤ k) : FnT P w K mg base CX k f fd ps sp :=
  ⟨F.len, fun A outer s H args us vs Q E hr => F.run A outer s H args us vs Q E (hr.mono h)⟩
end
section
variable {X : Cx} {e : Expr} {es : List Expr} {t : TA} {CX : CXT} {k : Nat} {f : Addr} {fd : FuncData} {ps : List Str} {sp : Sp} {E : XK} {x : Str} {p pos : Pos}
end
section
variable {M : MX} {X : Cx} {e : Expr} {es : List Expr} {fr : FA} {k : Nat} {f : Addr} {fd : FuncData} {ps : List Str} {dsp : DSp} {x : Str} {st : Stmt} {p pos : Pos}
end
section
variable {P : Program} {w : World} {K : PySem.W.Frag} {mg : Str → Option Value} {base : Heap}
end
end Kf
/-! Dl23: every second thing of a list, xs[::2], xs[1::2]. -/
namespace Kf
open PySem PySem.Spec L2
open PyProof.Rows hiding St
variable {M : MX}
def ev {α : Type} (l : List α) : List α := (List.range ((l.length + 1) / 2)).filterMap fun k => l[2 * k]?
theorem ev_nil {α : Type} : ev ([] : List α) = [] := by simp [ev]
theorem ev_one {α : Type} (x : α) : ev [x] = [x] := by simp [ev, List.range_succ]
theorem ev_two {α : Type} (x y : α) (r : List α) : ev (x :: y :: r) = x :: ev r := by
  unfold ev
  rw [show ((x :: y :: r).length + 1) / 2 = (r.length + 1) / 2 + 1 by simp only [List.length_cons]; omega, List.range_succ_eq_map, List.filterMap_cons]
  simp only [Nat.mul_zero, List.getElem?_cons_zero, List.filterMap_map]
  rfl
theorem RepAll.ev {K : PySem.W.Frag} {F : Hp} : ∀ (ds : List D) (vs : List V), RepAll K F ds vs → RepAll K F (Kf.ev ds) (Kf.ev vs)
  | [], vs, h => by simp only [RepAll] at h; subst h; rw [ev_nil, ev_nil]; exact .nil
  | [d], vs, h => by
    simp only [RepAll] at h
    obtain ⟨v, r, rfl, h1, rfl⟩ := h
    rw [ev_one, ev_one]; exact .one h1
  | d :: e :: ds, vs, h => by
    simp only [RepAll] at h
    obtain ⟨v, r, rfl, h1, v2, r2, rfl, h2, h3⟩ := h
    rw [ev_two, ev_two]; exact .cons h1 (RepAll.ev ds r2 h3)
section
variable {X : Cx} {e st lo : Expr} {fa : FE} {te : TE} {tst tlo : TO} {fs fl : FO} {pos p2 : Pos}
end
end Kf
/-! Dl24: a caught exception kept as a value behind the suite. -/
namespace Kf
open PySem PySem.Spec L2
open PyProof.Rows hiding St
variable {M : MX}
section
variable {X : Cx} {pins : List (Addr × Obj)} {σ : L2.St} {H : Hp} {s : Shared}
/-- a thing of the heap that is not tracked yet, nor was at the start, is tracked from now on -/
theorem Inv.track {a : Addr} {o : HO} {ob : Obj} {vs : Array Value} (I : Inv X pins σ H s) (ha : s.heap.get? a = some ob) (hd : ob.data = .fields vs) (hn : H a = none) (h0 : X.s_0.heap.get? a = none)
    (hp : ∀ p ∈ X.pn ++ pins, p.1 ≠ a) (new : ObjOk X.prog X.w (upd H a o) s.heap a o) : Inv X pins σ (upd H a o) s := by
  have n0 : ∀ {b u}, X.s_0.heap.get? b = some u → b ≠ a := fun e z => by rw [z, h0] at e; cases e
  have nH : ∀ {b u}, H b = some u → b ≠ a := fun e z => by rw [z, hn] at e; cases e
  refine ⟨I.ok, I.os, I.bare, ?_, I.loc, I.cell, ?_, ?_, ?_, ?_, I.len⟩
  · obtain ⟨b1, b2, b3, b4, b5, b6, b7⟩ := I.base
    refine ⟨b1, b2, fun b u e n x => ?_, b4, fun b xs e => ?_, fun b u xs e => ?_, fun b ps e => ?_⟩
    · rw [upd_ne (n0 e)]; exact b3 b u e n x
    · have z := b5 b xs e; rw [upd_ne (nH z)]; exact z
    · have z := b6 b u xs e; rw [upd_ne (nH z)]; exact z
    · obtain ⟨m, z⟩ := b7 b ps e; exact ⟨m, by rw [upd_ne (nH z)]; exact z⟩
  · have ne : X.env.locals ≠ a := fun z => by
      obtain ⟨m, ⟨oL, es, ep, hL, hdL, _⟩, _⟩ := I.loc
      rw [z, ha] at hL; cases hL
      rw [hd] at hdL; cases hdL
    rw [upd_ne ne]; exact I.free
  · intro x c e
    have ne : c ≠ a := fun z => by
      obtain ⟨v, oc, hc, hdc⟩ := I.cell x c e
      rw [z, ha] at hc; cases hc
      rw [hd] at hdc; cases hdc
    rw [upd_ne ne]; exact I.freeC x c e
  · intro p hm
    obtain ⟨k1, k2, k3⟩ := I.pin p hm
    exact ⟨k1, by rw [upd_ne (hp p hm)]; exact k2, k3⟩
  · intro b u e
    by_cases hb : b = a
    · subst hb; rw [upd_same] at e; cases e; exact new
    · rw [upd_ne hb] at e
      refine (I.hok b u e).stay (fun _ _ _ q => q) (fun c q => ?_) fun c xs q => ?_
      · rw [upd_ne (nH q)]; exact q
      · rw [upd_ne (nH q)]; exact q
/-- the exception's object at a -/
def xO (a : Addr) (cls : Value) (d : Option Addr) : HO := .ext fun h => ∃ oe vs, h.get? a = some oe ∧ Zc cls d oe ∧ oe.data = .fields vs
theorem xO_ok {P : Program} {w : World} {H : Hp} {h : Heap} {a : Addr} {cls : Value} {d : Option Addr} {oe : Obj} {vs : Array Value} (e : h.get? a = some oe) (z : Zc cls d oe) (k : oe.data = .fields vs) : ObjOk P w H h a (xO a cls d) :=
  ⟨⟨oe, vs, e, z, k⟩, ⟨oe, e⟩, fun _ _ ⟨o, v, q, r⟩ y => ⟨o, v, y o q, r⟩⟩
theorem xO_is {a : Addr} {cls : Value} {d : Option Addr} : IsX a cls d (xO a cls d) := ⟨_, rfl, fun _ z => z⟩
end
section
variable {X : Cx} {x n : Str} {c : Value} {i : Nat} {body suite : List Stmt} {b₀ : Stmt} {np pos pos' : Pos} {tb : WX → TS} {ts : Addr → Value → Option Addr → TS} {Wo : WX}
end
/-! ### over data -/
section
variable {X : Cx} {x n : Str} {c : Value} {i : Nat} {body suite : List Stmt} {b₀ : Stmt} {np pos pos' : Pos} {gb : XW → GS} {gs : Addr → Value → Option (List (Str × D)) → GS} {RXo : XW} {Wo : WX}
end
/-! ### a held exception asked -/
/-- the object and its dict, on the heap -/
theorem heldAt {X : Cx} {pins : List (Addr × Obj)} {σ : L2.St} {F O P H} {s : Shared} {b C : Addr} {fs : Option (List (Str × D))} (I : L2.Inv X pins σ H s) (g : Gd M X.K F O P H) (h : O b = some (.exc (.ref C) fs)) :
    ∃ oe od, PySem.W.InstAt s.heap b oe C od ∧ ∀ l, fs = some l → ∃ (fv : List (Str × V)) (mA : Str → Option Value) (o : Obj), FsOk X.K F l fv ∧ od = some o ∧ (∀ f, RelO (fv.lookup f) (mA f)) ∧ ∀ n, PySem.W.lookIn n o = some (mA n) := by
  obtain ⟨_, _, o, d, hH, ⟨φ, rfl, hφ⟩, hx⟩ := g.ow b _ h
  have k : ObjOk X.prog X.w H s.heap b (.ext φ) := I.hok b _ hH
  obtain ⟨oe, vs, e1, z, e2⟩ := hφ _ k.1
  have no : PySem.W.notCls oe = true := by unfold PySem.W.notCls; rw [e2] <;> rfl
  cases fs with
  | none =>
    have hd : d = none := hx
    subst hd
    exact ⟨oe, none, ⟨e1, z.1, no, by rw [z.2]; trivial⟩, fun l e => nomatch e⟩
  | some l =>
    obtain ⟨dx, fv, rfl, h1, h2⟩ := hx
    have kd : ObjOk X.prog X.w H s.heap dx (.xd fv) := I.hok dx _ (g.fz _ _ h1)
    obtain ⟨mA, hns, hr⟩ := kd
    obtain ⟨od, ho, hl⟩ := lookIn_ns hns
    exact ⟨oe, some od, ⟨e1, z.1, no, by rw [z.2]; exact ho⟩, fun l' e => by cases e; exact ⟨fv, mA, od, h2, rfl, hr, hl⟩⟩
def rIsXD (K : PySem.W.Frag) : RAD := fun ds O Q => match ds with
  | [.ref b, .tup cs] => ∃ C fs us bb, O b = some (.exc (.ref C) fs) ∧ ExcC K C ∧ Paired clsD cs us ∧ PySem.W.kitAny K (.ref C) us = some bb ∧ Q (.bl bb) O
  | [.ref b, c] => ∃ C fs cv bb, O b = some (.exc (.ref C) fs) ∧ ExcC K C ∧ clsD c cv ∧ PySem.W.kitOne K (.ref C) cv = some bb ∧ Q (.bl bb) O
  | _ => False
theorem excC_cl {K : PySem.W.Frag} {C : Addr} (h : ExcC K C) : (PySem.W.clsIn K C).isSome = true := by
  obtain ⟨cd, hc, _⟩ := PySem.W.any_some h.hd
  rw [hc]; rfl
theorem cd_isX {X : Cx} : CallD M X (.builtin "isinstance") (rIsXD X.K) := by
  intro pins s σ H xs us Q I r h
  obtain ⟨F, O, P, ds, R, g, rr, q, po⟩ := h
  unfold rIsXD at q
  split at q
  · rename_i b cs
    obtain ⟨C, fs, us', bb, hb, hC, hp, e, q⟩ := q
    obtain ⟨v, w, rfl, r1, r2⟩ := rr.two'
    simp only [Rep] at r1 r2
    subst r1
    obtain ⟨tp, vs, rfl, ht, rs⟩ := r2
    obtain ⟨its, rv, hit, _⟩ := I.tuple (Same.seqT g.fz ht)
    have eu := clsDs hp rs rv
    subst eu
    obtain ⟨oe, od, J, _⟩ := heldAt I g hb
    cases r with
    | cons ra rb =>
      cases rb with
      | cons rb rc =>
        cases rc
        cases ra
        cases rb
        obtain ⟨dd, n, sl, hit⟩ : ∃ dd n sl, s.heap.get? tp = some ⟨.type "tuple", dd, .seq its.toArray n, sl⟩ := by
          obtain ⟨⟨oc, od, oda, osl⟩, h1, h2, n, h3⟩ := hit
          dsimp only at h2 h3
          subst h2 h3
          exact ⟨od, n, osl, h1⟩
        exact PySem.W.kia_tup (PySem.W.kitx_exc (excC_cl hC) hC.hg hC.hk hC.hs hC.ha hC.hn hC.ht hC.hm) I.kIn J hit e (fun z => nomatch z) fun tk => ⟨.bl bb, H, I.kept (t' := tk) fun _ _ z => z, rfl, po.at g q (by simp only [Rep])⟩
  · rename_i b c _
    obtain ⟨C, fs, cv, bb, hb, hC, hcv, e, q⟩ := q
    obtain ⟨v, w, rfl, r1, r2⟩ := rr.two'
    simp only [Rep] at r1
    subst r1
    obtain ⟨oe, od, J, _⟩ := heldAt I g hb
    cases r with
    | cons ra rb =>
      cases rb with
      | cons rb rc =>
        cases rc
        cases ra
        have eu := hcv.uniq r2 rb
        subst eu
        exact PySem.W.kia_one (PySem.W.kitx_exc (excC_cl hC) hC.hg hC.hk hC.hs hC.ha hC.hn hC.ht hC.hm) I.kIn J e (fun z => nomatch z) fun tk => ⟨.bl bb, H, I.kept (t' := tk) fun _ _ z => z, rfl, po.at g q (by simp only [Rep])⟩
  · exact q.elim
theorem FsOk.get {K : PySem.W.Frag} {F : Hp} {fs : List (Str × D)} {fv : List (Str × V)} {f : Str} {d : D} (h : FsOk K F fs fv) (e : fs.lookup f = some d) : ∃ v, fv.lookup f = some v ∧ Rep K F d v := by
  induction h with
  | nil => simp at e
  | @cons p q _ _ r _ ih =>
    obtain ⟨p1, p2⟩ := p
    obtain ⟨q1, q2⟩ := q
    obtain ⟨r1, r2⟩ := r
    dsimp only at r1 r2
    subst r1
    rw [List.lookup_cons] at e ⊢
    cases c : (f == p1) with
    | true => rw [c] at e; cases e; exact ⟨q2, rfl, r2⟩
    | false => rw [c] at e; exact ih e
end Kf
/-! Dl25: dicts compared, cleared; max of a tuple of ints; instances of own classes: fields, methods, making. -/
namespace Kf
open PySem PySem.Spec L2
open PyProof.Rows hiding St
variable {M : MX}
/-! ### dicts of data compared -/
section
variable {X : Cx} {pins : List (Addr × Obj)} {σ : L2.St} {F P H : Hp} {O : Ow} {s : Shared}
end
section
variable {X : Cx}
end
section
variable {X : Cx} {o : Expr} {fo : FE} {apos cpos pos : Pos}
end
section
variable {X : Cx}
end
/-! ### instances of own classes -/
def putFD (f : Str) (v : D) : List (Str × D) → List (Str × D)
  | [] => [(f, v)]
  | (g, x) :: r => if g = f then (g, v) :: r else (g, x) :: putFD f v r
theorem FsOk.put {K : PySem.W.Frag} {F : Hp} {f : Str} {d : D} {v : V} (r : Rep K F d v) {fs : List (Str × D)} {fv : List (Str × V)} (h : FsOk K F fs fv) : FsOk K F (putFD f d fs) (putF f v fv) := by
  induction h with
  | nil => exact .cons ⟨rfl, r⟩ .nil
  | @cons p q ps qs z t ih =>
    obtain ⟨p1, p2⟩ := p
    obtain ⟨q1, q2⟩ := q
    obtain ⟨z1, z2⟩ := z
    dsimp only at z1 z2
    subst z1
    unfold putFD putF
    split
    · exact .cons ⟨rfl, r⟩ t
    · exact .cons ⟨rfl, z2⟩ ih
theorem FsOk.none {K : PySem.W.Frag} {F : Hp} {f : Str} {fs : List (Str × D)} {fv : List (Str × V)} (h : FsOk K F fs fv) (e : fs.lookup f = none) : fv.lookup f = none := by
  induction h with
  | nil => rfl
  | @cons p q _ _ r _ ih =>
    obtain ⟨p1, p2⟩ := p
    obtain ⟨q1, q2⟩ := q
    obtain ⟨r1, r2⟩ := r
    dsimp only at r1 r2
    subst r1
    rw [List.lookup_cons] at e ⊢
    cases c : (f == p1) with
    | true => rw [c] at e; cases e
    | false => rw [c] at e; exact ih e
theorem FsOk.length {K : PySem.W.Frag} {F : Hp} {fs : List (Str × D)} {fv : List (Str × V)} (h : FsOk K F fs fv) : fs.length = fv.length := Paired.length h
section
variable {X : Cx} {o e value : Expr} {es : List Expr} {f m x : Str} {pos pos' apos p : Pos} {fo fe : FE} {fr : FA} {k : Nat} {C g0 : Addr} {fd : FuncData} {ps : List Str} {dsp : DSp}
/-- a method as it stands -/
structure Mt (K : PySem.W.Frag) (C : Addr) (m qual : Str) (st : Stmt) (ps : List Str) (f : Addr) (fd : FuncData) : Prop where
  F : Fun K m qual st f fd
  m : Meth K C m f
  b : Binds K fd ps []
/-- a class that is made by its __init__ -/
structure MkN (K : PySem.W.Frag) (mg : Str → Option Value) (x : Str) (C : Addr) (f : Addr) : Prop where
  made : Mk K C f
  g : mg x = some (.ref C)
end
section
variable {O : Ow} {a C : Addr} {fs : List (Str × D)} {f m : Str} {d : D} {Q : VD} {N : Ow → Prop}
end
end Kf
/-! Dl26: defs as values (called, compared), a caught exception that the suite holds as a thing. -/
namespace Kf
open PySem PySem.Spec L2
open PyProof.Rows hiding St
variable {M : MX}
/-! ### functions compared -/
theorem sl_fn_eq : Slot "function" "__eq__" "object.__eq__" :=
  .of (owner := "object") (n := "__eq__") (by rw [typeLookup_type, builtinLookup_eq_fast]; kernel_rfl) (by decide +kernel) (by decide +kernel) (by decide +kernel)
    (by first | exact .inl (by decide +kernel) | exact .inr (by decide +kernel)) (by rw [isSubtype_type]; kernel_rfl)
theorem sl_fn_ne : Slot "function" "__ne__" "object.__ne__" :=
  .of (owner := "object") (n := "__ne__") (by rw [typeLookup_type, builtinLookup_eq_fast]; kernel_rfl) (by decide +kernel) (by decide +kernel) (by decide +kernel)
    (by first | exact .inl (by decide +kernel) | exact .inr (by decide +kernel)) (by rw [isSubtype_type]; kernel_rfl)
section
variable {prog : Program} {w : World} {A : Around} {E : Value → Shared → Prop} {s : Shared} {x y : Addr}
theorem fn_noTuple {ox : Obj} (hx : s.TypeIs (.ref x) "function") (h : s.heap.get? x = some ox) : ox.cls ≠ .type "tuple" := by
  obtain ⟨o, ho, hc⟩ := hx
  rw [h] at ho; cases ho
  rw [hc]; simp
theorem fnSp_same (hx : s.TypeIs (.ref x) "function") {Q : Option Value → Shared → Prop} (hq : Q (some (.bool true)) s) :
    wpAny (model prog w) A (callSpecialIfBound? (.ref x) "__eq__" [.ref x]) Q E s :=
  wpAny_callSpecialIfBound?_slot hx sl_fn_eq (wpAny_call (codeAny_call_builtin sl_fn_eq.plain F.cmpEntry_eq (sl_fn_eq.check _ _ _ _ _ _ _ _ hx (F.cmpArgs_eq _ _) (objEq_entry_same hq))))
theorem fnSp_other (hx : s.TypeIs (.ref x) "function") (hy : s.TypeIs (.ref y) "function") (hxy : x ≠ y) {Q : Option Value → Shared → Prop} (hq : Q (some .notImplemented) s) :
    wpAny (model prog w) A (callSpecialIfBound? (.ref x) "__eq__" [.ref y]) Q E s := by
  obtain ⟨ox, h1, c1⟩ := id hx
  obtain ⟨oy, h2, c2⟩ := id hy
  exact wpAny_callSpecialIfBound?_slot hx sl_fn_eq (wpAny_call (codeAny_call_builtin sl_fn_eq.plain F.cmpEntry_eq (sl_fn_eq.check _ _ _ _ _ _ _ _ hx (F.cmpArgs_eq _ _)
    (objEq_entry_other hxy h1 h2 (fn_noTuple hx h1) hq))))
theorem fnNe_same (hx : s.TypeIs (.ref x) "function") (hu : A.units < cLine) {Q : Fin → Shared → Prop} (hq : Q (.done (.ret (.bool false))) s) :
    wpAny (model prog w) A (Builtin.«object.__ne__» ⟨[.ref x, .ref x], []⟩) Q E s := by
  unfold Builtin.«object.__ne__»
  repeat (first | with_reducible refine wpAny_cRoomFor hu ?_ | with_reducible refine fnSp_same hx ?_ | wp_step)
  exact hq
theorem fnNe_other (hx : s.TypeIs (.ref x) "function") (hy : s.TypeIs (.ref y) "function") (hxy : x ≠ y) (hu : A.units < cLine) {Q : Fin → Shared → Prop} (hq : Q (.done (.ret .notImplemented)) s) :
    wpAny (model prog w) A (Builtin.«object.__ne__» ⟨[.ref x, .ref y], []⟩) Q E s := by
  unfold Builtin.«object.__ne__»
  repeat (first | with_reducible refine wpAny_cRoomFor hu ?_ | with_reducible refine fnSp_other hx hy hxy ?_ | wp_step)
  exact hq
theorem fnTn_same (hx : s.TypeIs (.ref x) "function") (hu : A.units + 1 < cLine) {Q : Option Value → Shared → Prop} (hq : Q (some (.bool false)) s) : wpAny (model prog w) A (tryCompare (.ref x) "__ne__" (.ref x)) Q E s := by
  simp only [tryCompare]
  refine wpAny_bind (wpAny_callSpecialIfBound?_slot hx sl_fn_ne (wpAny_call (codeAny_call_builtin sl_fn_ne.plain F.cmpEntry_ne
    (sl_fn_ne.check _ _ _ _ _ _ _ _ hx (F.cmpArgs_ne _ _) (fnNe_same (A := A.in1) hx hu ?_)))))
  exact wpAny_pure hq
theorem fnTn_other (hx : s.TypeIs (.ref x) "function") (hy : s.TypeIs (.ref y) "function") (hxy : x ≠ y) (hu : A.units + 1 < cLine) {Q : Option Value → Shared → Prop} (hq : Q none s) : wpAny (model prog w) A (tryCompare (.ref x) "__ne__" (.ref y)) Q E s := by
  simp only [tryCompare]
  refine wpAny_bind (wpAny_callSpecialIfBound?_slot hx sl_fn_ne (wpAny_call (codeAny_call_builtin sl_fn_ne.plain F.cmpEntry_ne
    (sl_fn_ne.check _ _ _ _ _ _ _ _ hx (F.cmpArgs_ne _ _) (fnNe_other (A := A.in1) hx hy hxy hu ?_)))))
  exact wpAny_pure hq
theorem fn_ne (hx : s.TypeIs (.ref x) "function") (hy : s.TypeIs (.ref y) "function") (hu : A.units + 1 < cLine) {Q : Value → Shared → Prop} (hq : Q (.bool (!decide (x = y))) s) : wpAny (model prog w) A (compareOp .NotEq (.ref x) (.ref y)) Q E s := by
  show wpAny _ A (richCompare .NotEq _ _) Q E s
  obtain ⟨ox, h1, c1⟩ := id hx
  obtain ⟨oy, h2, c2⟩ := id hy
  have hu0 : A.units < cLine := Nat.lt_of_succ_lt hu
  by_cases e : x = y
  · subst e
    simp only [richCompare, cmpInfo_NotEq, oneThing_ref]
    repeat (first | with_reducible refine wpAny_cRoomFor hu0 ?_ | with_reducible refine wpAny_typeOf hx ?_ | with_reducible refine fnTn_same hx hu ?_ | wp_step)
    simpa using hq
  · rw [decide_eq_false e] at hq
    simp only [richCompare, cmpInfo_NotEq, oneThing_ref]
    repeat (first | with_reducible refine wpAny_cRoomFor hu0 ?_ | with_reducible refine wpAny_typeOf hx ?_ | with_reducible refine wpAny_typeOf hy ?_ | with_reducible refine fnTn_other hx hy e hu ?_ | with_reducible refine fnTn_other hy hx (Ne.symm e) hu ?_ | with_reducible refine wpAny_isSame_ref_other e h1 h2 (fn_noTuple hx h1) ?_ | wp_step)
    exact hq
end
theorem isFn_type {K : PySem.W.Frag} {s : Shared} {f : Addr} (X : K.In s.heap) (h : PySem.W.isFn K (.ref f) = true) : s.TypeIs (.ref f) "function" := by
  unfold PySem.W.isFn PySem.W.typeIn at h
  cases e : K.lookup f with
  | none => simp [e] at h
  | some o =>
    refine ⟨o, X _ _ e, ?_⟩
    simpa [e] using h
/-- two defs compared -/
def rFnEq (K : PySem.W.Frag) (neg : Bool) : R2D := fun x y O Q => ∃ f g, x = .ref f ∧ y = .ref g ∧ PySem.W.isFn K (.ref f) = true ∧ PySem.W.isFn K (.ref g) = true ∧ Q (.bl (neg ^^ decide (f = g))) O
section
variable {X : Cx}
theorem od_fne (hu : X.A.units + 200 < cLine) : OpD M X (compareOp .NotEq) (rFnEq X.K true) := by
  intro pins s σ H x y v u Q I rx ry q
  obtain ⟨F, O, P, dx, dy, R, g, r1, r2, ⟨a, b, rfl, rfl, ha, hb, q⟩, po⟩ := q
  simp only [Rep] at r1 r2
  subst r1 r2
  obtain rfl : v = Value.ref a := rx
  obtain rfl : u = Value.ref b := ry
  exact fn_ne (isFn_type I.kIn ha) (isFn_type I.kIn hb) (by omega) ⟨.bl _, H, I, rfl, po.at g q (by simp only [Rep, Bool.true_xor])⟩
/-- a def of the text as a value -/
theorem de_fnv {x : Str} {st : Stmt} {ps : List Str} {f : Addr} {fd : FuncData} {pos : Pos} (N : Fn X.K X.mg x st ps f fd) (hg : Gl X x) (hd : (x == ("__debug__" : Str)) = false := by decide) : DE M X (.Name x pos) (fC (.ref f)) :=
  de_glob hg N.m (v := .ref f) rfl (fun _ => by simp only [Rep]) hd
end
/-! ### a call of what an expression tells -/
def sOne (a : Addr) (sp : DSp) : Addr → DSp → Prop := fun f s => f = a ∧ s = sp
def sOr (S T : Addr → DSp → Prop) : Addr → DSp → Prop := fun f s => S f s ∨ T f s
def HeldD (P : Program) (w : World) (K : PySem.W.Frag) (mg : Str → Option Value) (base : Heap) (CX : CXT) (k : Nat) (S : Addr → DSp → Prop) : Prop :=
  ∀ f sp, S f sp → ∃ fd ps, FnOk P w K mg base CX k f fd ps (liftSp K sp) ∧ PySem.W.keepIn K (.ref f) = true ∧ Binds K fd ps []
section
variable {P : Program} {w : World} {K : PySem.W.Frag} {mg : Str → Option Value} {base : Heap} {CX : CXT} {k : Nat}
theorem held_one {x : Str} {st : Stmt} {ps : List Str} {f : Addr} {fd : FuncData} {sp : DSp} (N : Fn K mg x st ps f fd) (G : FnOk P w K mg base CX k f fd ps (liftSp K sp)) : HeldD P w K mg base CX k (sOne f sp) := by
  rintro _ _ ⟨rfl, rfl⟩
  exact ⟨fd, ps, G, N.F.kp, N.b⟩
theorem held_or {S T : Addr → DSp → Prop} (A : HeldD P w K mg base CX k S) (B : HeldD P w K mg base CX k T) : HeldD P w K mg base CX k (sOr S T) := fun f sp h => h.elim (A f sp) (B f sp)
end
def fCallE (S : Addr → DSp → Prop) (fe : FE) (fr : FA) : FE := fun ρ O Q => fe ρ O fun d O1 => ∃ f sp, d = .ref f ∧ S f sp ∧ fr ρ O1 fun ds O2 => sp ds O2 Q X0
section
variable {X : Cx} {e f₀ : Expr} {es : List Expr} {fe : FE} {fr : FA} {k : Nat} {S : Addr → DSp → Prop} {pos : Pos} {RX : XW} {W : WX}
theorem de_callE (hs : HeldD X.prog X.w X.K X.mg X.base CX0 k S) (hr : Room k X.A) (hf : DE M X f₀ fe) (ha : DA M X (e :: es) fr)
    (hc : eval (.Call f₀ (e :: es) [] pos) X.env = (do callWith pos (← eval f₀ X.env) [] (backTo pos (starEach (e :: es) X.env)) (backToKw pos (keywordEach [] X.env))) := by rfl)
    (he : starEach (e :: es) X.env = (false, eval e X.env) :: starEach es X.env := by rfl) (hpl : (backTo pos (starEach es X.env)).any (·.1) = false := by rfl) : DE M X (.Call f₀ (e :: es) [] pos) (fCallE S fe fr) := by
  refine ⟨fun pins s σ H Q I h => ?_⟩
  obtain ⟨F, O, P, ρ, R, g, en, q, po⟩ := h
  rw [hc]
  refine wpAny_bind (thn (hf.run pins s σ H (fun v' H' => ∃ F1 O1 x, Rep X.K F1 x v' ∧ Same F F1 ∧ Gd M X.K F1 O1 P H' ∧ ∃ f sp, x = .ref f ∧ S f sp ∧ fr ρ O1 fun ds O2 => sp ds O2 R X0) I
    ⟨F, O, P, ρ, _, g, en, q, fun x O1 F1 H1 v q1 s1 g1 r1 => ⟨F1, O1, x, r1, s1, g1, q1⟩⟩) fun u s1 ⟨v, H1, I1, ru, F1, O1, x, r1, s1', g1, f, sp, ex, hS, q1⟩ => ?_)
  subst ex
  simp only [Rep] at r1
  subst r1
  obtain rfl : u = Value.ref f := ru
  obtain ⟨fd, ps, G, hk, hb⟩ := hs f sp hS
  refine PySem.W.callWith_K (h₀ := X.base) I1.ok.mod.kin hk (thn (ha.run pos pins s1 σ H1 (fun vs H2 => liftSp X.K sp (vs ++ []) H2 Q E0) I1 ⟨F1, O1, P, ρ, _, g1, en.mono s1', q1, fun ds O2 F2 H2 vs q2 s2 g2 r2 => ?_⟩) fun us s2 ⟨vs, H2, I2, r, q2⟩ => ⟨I2.kIn, ?_⟩) he hpl
  · show liftSp X.K sp (vs ++ []) H2 Q E0
    rw [List.append_nil]
    exact ⟨F2, O2, P, ds, R, X0, g2.mt, r2, q2, po.mt g2 (s1'.trans s2), fun _ _ _ _ _ _ z => z.elim⟩
  · exact run_fn G hr hb .nil pass0 I2 r q2
end
def wHas (K : PySem.W.Frag) (c : Value) (i : Nat) (ts : TS) (Wo : WX) (D : Ends) : WX := fun cls d σ H =>
  ∃ b, PySem.W.exmOne K cls c = some b ∧
    (b = true → ∀ a, H a = none → ts { nx := fun τ H2 => D.nx (τ.set i none) H2, rt := D.rt, bk := fun τ H2 => D.bk (τ.set i none) H2, ct := fun τ H2 => D.ct (τ.set i none) H2 } (σ.set i (some (.ref a))) (upd H a (xO a cls d))) ∧
    (b = false → Wo cls d σ H)
section
variable {X : Cx} {x n : Str} {c : Value} {i : Nat} {body suite : List Stmt} {b₀ : Stmt} {np pos pos' : Pos} {tb : WX → TS} {ts : TS} {Wo : WX}
theorem ps_try_has (hx : X.ex = []) (stk : X.stack = X.env :: X.outer) (frm : X.env.frame = some X.env.locals) (nd : X.N.Nodup) (at_ : X.N[i]? = some n) (kd : X.env.kindOf n = some .local) (nm : Names X x c) (tk : Takes X Wo)
    (hb : ∀ (W : WX) (pn : List (Addr × Obj)) (xe : Value → Shared → Prop), Takes (X.tr pn xe) W → PassesOwn (model X.prog X.w) X.A X.env xe → PSs (X.tr pn xe) body (tb W))
    (hsu : ∀ (a : Addr) (pn : List (Addr × Obj)), PSs (X.suite a pn) (b₀ :: suite) ts) :
    PS X (.Try body [.ExceptHandler (some (.Name x np)) (some n) (b₀ :: suite) pos'] [] [] pos) (fun D σ H => tb (wHas X.K c i ts Wo D) D σ H) := by
  constructor
  intro pins s σ H D I h
  have xok := I.ok
  have frs_ : X.A.frames = some (X.env :: X.outer) := by rw [xok.frames, stk]
  apply wpAny_Try_except
  have B := hb (wHas X.K c i ts Wo D) (X.pn ++ pins) (fun e s₁ => wpAny (model X.prog X.w) X.A (noteFrame e X.env) (fun _ s₂ => wpAny (model X.prog X.w) X.A (setFlight e none)
    (fun _ s₃ => wpAny (model X.prog X.w) X.A (handleBy e X.env [.ExceptHandler (some (.Name x np)) (some n) (b₀ :: suite) pos']) (SP X pins D) X.xe s₃) X.xe s₂) X.xe s₁) ?lnd PassesOwn.looking
  case lnd =>
    rintro u t ⟨a, G, tI, pins2, τ, H2, cls, d, rfl, J2, nG, up, sky, fr, os, ag, b, m1, yes, no⟩
    have J := J2.ofTry xok
    rw [stk] at sky
    show wpAny (model X.prog X.w) X.A (noteFrame (.ref a) X.env) _ _ _
    refine Sky.land Zc.steady frs_ frm sky fun g3 F3 U3 => ?_
    have J3 : Inv X pins τ H2 { t with heap := g3 } := J.landed nG F3.1 (up.trans U3) os ag
    obtain ⟨o3, v3, e3, z3, d3⟩ := F3.there
    have offS : a ∉ frs (X.env :: X.outer) := fun q => by
      obtain ⟨_, o', e', nf⟩ := F3.2.2.1.mem q
      rw [e3] at e'; cases e'
      exact nf _ d3
    have offL : a ≠ X.env.locals := fun z => offS (List.mem_filterMap.mpr ⟨X.env, List.mem_cons_self, by rw [frm, z]⟩)
    have offF : a ∉ X.fs := fun q => by
      obtain ⟨e, he, k⟩ := List.mem_filterMap.mp q
      exact offS (List.mem_filterMap.mpr ⟨e, List.mem_cons_of_mem _ he, k⟩)
    have newI : tI.heap.get? a = none := by
      cases e : tI.heap.get? a with
      | none => rfl
      | some o =>
        have k := nG a o e (by rw [stk]; exact offS)
        rw [F3.2.1] at k; cases k
    have new0 : X.s_0.heap.get? a = none := by
      cases e : X.s_0.heap.get? a with
      | none => rfl
      | some o =>
        obtain ⟨o', k⟩ := J.base.there a o e (by rw [hx]; exact fun z => nomatch z)
        rw [newI] at k; cases k
    have newP : ∀ p ∈ X.pn ++ pins, p.1 ≠ a := fun p hp z => by
      have k := (J.pin p hp).1
      rw [z, newI] at k; cases k
    have S3 := J3.suite e3 d3 fr offL offF
    refine wpAny_handleBy_cons (codeAny_handlers_test ?_) (by intro q; cases q)
    have look : PySem.W.Looks (model X.prog X.w) g3 (typeOf (.ref a)) cls := fun A Q E s k q => wpAny_typeOf_ref (k _ _ e3) (by rw [z3.1]; exact q)
    have asked := PySem.W.exm_one (M := model X.prog X.w) J3.kIn look m1
    have named : ∀ {Q E : Value → Shared → Prop}, Q c { t with heap := g3 } → wpAny (model X.prog X.w) (X.A.mark (some (.ref a))) (eval (.Name x np) X.env) Q E { t with heap := g3 } := by
      intro Q E q
      obtain ⟨hg, hd, k | ⟨k, kb, kn⟩⟩ := nm
      · exact ld_glob (X := X.suite a ((a, o3) :: (X.pn ++ pins))) S3 hg k q hd
      · exact ld_blt (X := X.suite a ((a, o3) :: (X.pn ++ pins))) S3 hg k kb q kn hd
    refine named (asked.here ?_)
    cases b with
    | false =>
      show wpAny _ X.A (handleBy (.ref a) X.env []) _ _ _
      apply wpAny_handleBy_nil
      obtain ⟨_, _, _, oe, vs, Tb, oT, ts', he, _, hd, h1, _⟩ := id F3
      unfold PySem.passOn
      refine wpAny_bind (wpAny_field he hd h1 ?_)
      rw [if_neg (show ¬ ((Value.ref Tb == Value.none) = true) from by simp)]
      have out : wpAny (model X.prog X.w) X.A (setFlight (.ref a) X.env.frame) (fun _ s4 => wpAny (model X.prog X.w) X.A (throw (.ref a) : Sem Flow) (SP X pins D) X.xe s4) X.xe { t with heap := g3 } := by
        rw [frm]
        exact HandSPX.setFlight_upZ F3 fun h4 hh4 up4 => wpAny_throw (tk _ _ ⟨a, G, tI, pins, τ, H2, cls, d, rfl, J, nG, (up.trans U3).trans up4, .inr (.inr (by rw [stk]; exact hh4)), fr, os, ag, no rfl⟩)
      first
        | exact wpAny_bind (wpAny_pure (wpAny_bind out))
        | exact wpAny_bind out
    | true =>
      apply codeAny_handlers_suite_as
      refine HandSPX.lands_againZ F3 fun g4 F4 U4 => ?_
      have J4 : Inv X pins τ H2 { t with heap := g4 } := J.landed nG F4.1 ((up.trans U3).trans U4) os ag
      obtain ⟨o4, v4, e4, z4, d4⟩ := F4.there
      have S4 : Inv (X.suite a (X.pn ++ pins)) [] τ H2 { t with heap := g4 } := ⟨J4.ok.suite _ _, J4.os, J4.bare, J4.base, J4.loc, J4.cell, J4.free, J4.freeC, fun p hp => J4.pin p (by rw [List.append_nil] at hp; exact hp), J4.hok, J4.len⟩
      have T4 := Inv.track (o := xO a cls d) S4 e4 d4 fr new0 (fun p hp => newP p (by rw [List.append_nil] at hp; exact hp)) (xO_ok e4 z4 d4)
      have un : ∀ {τ6 H6 s6}, Inv (X.suite a (X.pn ++ pins)) [] τ6 H6 s6 → Inv X pins τ6 H6 s6 := fun I => ⟨xok, I.os, I.bare, I.base, I.loc, I.cell, I.free, I.freeC, fun p hp => I.pin p (List.mem_append_left _ hp), I.hok, I.len⟩
      refine store_ok (X := X.suite a (X.pn ++ pins)) (v := .ref a) T4 nd at_ (.inl kd) rfl (fun t5 S5 => ?_) (.inr kd)
      refine wpAny_mono ((hsu a (X.pn ++ pins)).run [] t5 _ _ _ S5 (yes rfl a fr)) (fun f t6 hsp => ?_) (fun _ _ z => False.elim z)
      cases f with
      | next =>
        obtain ⟨τ6, H6, S6, q6⟩ := hsp
        exact gone_ok (un S6) nd at_ kd fun t7 K7 => ⟨_, _, K7, q6⟩
      | brk =>
        obtain ⟨τ6, H6, S6, q6⟩ := hsp
        exact gone_ok (un S6) nd at_ kd fun t7 K7 => ⟨_, _, K7, q6⟩
      | cont =>
        obtain ⟨τ6, H6, S6, q6⟩ := hsp
        exact gone_ok (un S6) nd at_ kd fun t7 K7 => ⟨_, _, K7, q6⟩
      | ret u =>
        obtain ⟨v6, τ6, H6, S6, r6, q6⟩ := hsp
        exact gone_ok (un S6) nd at_ kd fun t7 K7 => ⟨_, _, _, K7, r6, q6⟩
  refine wpAny_mono (B.run [] s σ H D (I.toTry _) h) (fun f s1 hsp => ?_) (fun e s1 he => he)
  cases f with
  | next =>
    obtain ⟨τ, H2, J, q⟩ := hsp
    exact wpAny_execs_nil ⟨τ, H2, J.ofTry xok, q⟩
  | brk =>
    obtain ⟨τ, H2, J, q⟩ := hsp
    exact ⟨τ, H2, J.ofTry xok, q⟩
  | cont =>
    obtain ⟨τ, H2, J, q⟩ := hsp
    exact ⟨τ, H2, J.ofTry xok, q⟩
  | ret u =>
    obtain ⟨v, τ, H2, J, r, q⟩ := hsp
    exact ⟨v, τ, H2, J.ofTry xok, r, q⟩
end
/-! ### a caught exception held in the suite -/
def endsHas (i : Nat) (R : DEnds) : DEnds := { nx := fun ρ O => R.nx (ρ.set i none) O, rt := R.rt, bk := fun ρ O => R.bk (ρ.set i none) O, ct := fun ρ O => R.ct (ρ.set i none) O }
def xHs (K : PySem.W.Frag) (c : Value) (i : Nat) (gs : GS) (RXo : XW) (R : DEnds) : XW := fun cls fs ρ O => ∃ b, PySem.W.exmOne K cls c = some b ∧
  (b = true → ∀ a, O a = none → gs (endsHas i R) (ρ.set i (some (.ref a))) (updO O a (.exc cls fs))) ∧ (b = false → RXo cls fs ρ O)
/-- try: .. except C as n: .. where n is a thing like any other -/
def gTryHs (K : PySem.W.Frag) (c : Value) (i : Nat) (gb : XW → GS) (gs : GS) (RXo : XW) : GS := fun R ρ O => gb (xHs K c i gs RXo R) R ρ O
section
variable {X : Cx} {x n : Str} {c : Value} {i : Nat} {body suite : List Stmt} {b₀ : Stmt} {np pos pos' : Pos} {gb : XW → GS} {gs : GS} {RXo : XW} {Wo : WX}
theorem ds_try_has (hN : X.N.Nodup) (hi : X.N[i]? = some n) (hln : X.env.kindOf n = some .local) (hc : Names X x c) (tk : Takes X Wo) (ho : Outs M X.K RXo Wo)
    (hb : ∀ (RX : XW) (W : WX) (pn : List (Addr × Obj)) (xe : Value → Shared → Prop), Takes (X.tr pn xe) W → PassesOwn (model X.prog X.w) X.A X.env xe → DSs (mxw X.K RX W) (X.tr pn xe) body (gb RX))
    (hsu : ∀ (a : Addr) (pn : List (Addr × Obj)), DSs M (X.suite a pn) (b₀ :: suite) gs)
    (hx : X.ex = [] := by rfl) (hs : X.stack = X.env :: X.outer := by rfl) (hf : X.env.frame = some X.env.locals := by rfl) :
    DS M X (.Try body [.ExceptHandler (some (.Name x np)) (some n) (b₀ :: suite) pos'] [] [] pos) (gTryHs X.K c i gb gs RXo) :=
  psMono (ps_try_has (tb := fun W => liftSW X.K W gb) (ts := liftS M X.K gs) hx hs hf hN hi hln hc tk (fun W pn xe tk' ps => pss_sw (X := X.tr pn xe) fun RX => hb RX W pn xe tk' ps)
    (fun a pn => hsu a pn)) fun D σ H h => by
  obtain ⟨F, O, P, ρ, R, g, en, q, po⟩ := h
  refine ⟨_, F, O, P, ρ, R, g.re ⟨P, Same.refl _, fun cls fs ρ' O' F' H' dd σ' q1 s1 g1 xd en1 => ?_⟩, en, q, po.re g⟩
  obtain ⟨b, hb1, hb2, hb3⟩ := q1
  have gM := g1.re (M' := M) (M.mono g.rl s1 (Same.refl _))
  refine ⟨b, hb1, fun hbt a ha => ?_, fun hbf => ho F' O' P H' cls fs ρ' dd σ' gM (hb3 hbf) xd en1⟩
  have z := hb2 hbt a (g1.freeO ha)
  refine ⟨F', updO O' a (.exc cls fs), P, ρ'.set i (some (.ref a)), _, gM.newO (o := xO a cls dd) (c := .exc cls fs) ha ⟨_, dd, upd_same, xO_is, xd⟩, en1.set (by simp only [Rep]) i, z, ⟨fun ρ3 O3 F3 H3 σ3 q3 s3 g3 en3 => ?_, fun d3 O3 F3 H3 v3 q3 s3 g3 r3 => ?_, fun ρ3 O3 F3 H3 σ3 q3 s3 g3 en3 => ?_, fun ρ3 O3 F3 H3 σ3 q3 s3 g3 en3 => ?_⟩⟩
  · exact po.nx _ _ F3 _ _ q3 (s1.trans s3) g3 (en3.wipe i)
  · exact po.rt _ O3 F3 H3 _ q3 (s1.trans s3) g3 r3
  · exact po.bk _ O3 F3 H3 _ q3 (s1.trans s3) g3 (en3.wipe i)
  · exact po.ct _ O3 F3 H3 _ q3 (s1.trans s3) g3 (en3.wipe i)
end
theorem ap_gTryHs (K : PySem.W.Frag) (c : Value) (i : Nat) (gb : XW → GS) (gs : GS) (RXo : XW) {R : DEnds} {ρ : DEnv} {O : Ow} : gTryHs K c i gb gs RXo R ρ O = gb (xHs K c i gs RXo R) R ρ O := rfl
theorem ap_fCallE (S : Addr → DSp → Prop) (fe : FE) (fr : FA) {ρ : DEnv} {O : Ow} {Q : VD} : fCallE S fe fr ρ O Q = fe ρ O fun d O1 => ∃ f sp, d = .ref f ∧ S f sp ∧ fr ρ O1 fun ds O2 => sp ds O2 Q X0 := rfl
theorem rFnEq_r {K : PySem.W.Frag} {neg : Bool} {f g : Addr} {O : Ow} {Q : VD} (hf : PySem.W.isFn K (.ref f) = true) (hg : PySem.W.isFn K (.ref g) = true) (h : Q (.bl (neg ^^ decide (f = g))) O) : rFnEq K neg (.ref f) (.ref g) O Q := ⟨f, g, rfl, rfl, hf, hg, h⟩
/-! ### a def that is called while an exception is handled -/
structure RoomC (k : Nat) (A : Around) : Prop where
  dp : A.depth + 3 * k + 5 < recursionLimit
  un : A.units + 16 * k + 200 < cLine
theorem RoomC.deeper {k : Nat} {A : Around} (r : RoomC (k + 1) A) (env : Env) : RoomC k (A.deeper env) :=
  ⟨by have := r.dp; show A.depth + 1 + 3 * k + 5 < _; omega, by have := r.un; show A.units + 3 + 16 * k + 200 < _; omega⟩
theorem roomC_mark {k : Nat} {A : Around} (r : Room k A) (h : Option Value) : RoomC k (A.mark h) := ⟨r.dp, r.un⟩
structure FnC (P : Program) (w : World) (K : PySem.W.Frag) (mg : Str → Option Value) (base : Heap) (CX : CXT) (k : Nat) (f : Addr) (fd : FuncData) (ps : List Str) (sp : Sp) : Prop where
  len : ∀ vs H Q E, sp vs H Q E → vs.length = ps.length
  run : ∀ (A : Around) (outer : List Env) (s : Shared) (H : Hp) (args : Args) (us : List Value) (vs : List V) (Q : VK) (E : XK), RoomC k A → Env0 P w K mg base A outer s H → BindsTo s fd args (ps.zip us) → Vals vs us → sp vs H Q E →
    codeAny (model P w) A (.call (.ref f) args) (CR CX outer P w H s Q E) s
def cxC (CX : CXT) (P : Program) (w : World) (K : PySem.W.Frag) (mg : Str → Option Value) (base : Heap) (N : List Str) (qual : Str) (scope : Scope) (f : Addr) (cd : Value) (A : Around) (outer : List Env) (s : Shared) (H : Hp) (E : XK) : Cx :=
  { cxOf CX P w K mg base N qual scope f cd A outer s H E with calm := false }
theorem inv_startC {CX : CXT} {P : Program} {w : World} {K : PySem.W.Frag} {mg : Str → Option Value} {base : Heap} {N ps : List Str} {qual : Str} {scope : Scope} {f : Addr} {cd : Value} {A : Around} {outer : List Env} {s s1 : Shared} {H : Hp} {E : XK} {us : List Value} {vs : List V}
    (S : FnScope N ps scope) (e0 : Env0 P w K mg base A outer s H) (hl : vs.length = ps.length) (r : Vals vs us)
    (x : InCallC s s.heap.objs.size (bindL (envOfC qual scope s.heap.objs.size f cd).kindOf (ps.zip us) fun _ => none) (cellsFrom (s.heap.objs.size + 1) scope.names []) (bindC (envOfC qual scope s.heap.objs.size f cd).kindOf (ps.zip us) fun _ => none) s1) :
    Inv (cxC CX P w K mg base N qual scope f cd A outer s H E) [] (L2.start N vs) H s1 := by
  have hpl : ps.length ≤ N.length := by have := congrArg List.length S.pre; rw [List.length_take] at this; omega
  obtain ⟨h1, tk, rfl, hk⟩ := x.done
  have noA : ∀ b : Addr, b ∉ (cxC CX P w K mg base N qual scope f cd A outer s H E).ex := fun b z => absurd (show b ∈ ([] : List Addr) from z) (by simp)
  refine ⟨⟨e0.mod, S.kind, rfl, rfl, Nat.le_refl _, fun y z c h1 h2 => ?_, fun y hy => ?_, fun y c _ h => ?_, (fun z => Bool.noConfusion (show false = true from z)), Around.frames_deeper e0.frames, .inr ⟨rfl, rfl⟩, fun b z => absurd z (noA b), e0.bs, e0.bsz, fun b _ _ => noA b, fun b z => absurd z (noA b), e0.funs, e0.frf⟩,
    rfl, e0.bare, Un.kept hk, ⟨_, x.toInCall.ns, fun i y v h1 h2 h3 => ?_⟩, fun y c h => ⟨_, x.cell y c h⟩, e0.hok.fresh (Nat.le_refl _), fun y c h => ?_, fun q hq => ?_, e0.hok.kept hk, ?_⟩
  · exact name_of_addr x.apart (PySem.mem_of_lookup h1) (PySem.mem_of_lookup h2)
  · have hy : scope.names.lookup y = some .cell ∨ scope.names.lookup y = some .free := hy
    rcases hy with hy | hy
    · exact cell_has hy
    · exact absurd rfl (S.nofree _ (PySem.mem_of_lookup hy))
  · exact Nat.le_of_lt (x.above y c (PySem.mem_of_lookup h))
  · have hi : i < vs.length := by
      unfold L2.start at h2
      by_cases hi : i < vs.length
      · exact hi
      · rw [List.getElem?_append_right (by simpa using hi)] at h2
        rw [List.getElem?_replicate] at h2
        split at h2 <;> cases h2
    have ha : vs[i]? = some v := by
      unfold L2.start at h2
      rw [List.getElem?_append_left (by simpa using hi), List.getElem?_map] at h2
      cases e : vs[i]? with
      | none => rw [e] at h2; cases h2
      | some a => rw [e] at h2; cases h2; rfl
    obtain ⟨u, hu, rv⟩ := r.get ha
    have hp : ps[i]? = some y := by
      rw [← S.pre, List.getElem?_take_of_lt (by omega)]; exact h1
    have ndP : ps.Nodup := by rw [← S.pre]; exact S.nd.sublist (List.take_sublist _ _)
    refine ⟨u, rv, ?_⟩
    rcases S.par y (List.mem_of_getElem? hp) with k | k
    · exact .inl ⟨k, bindL_get ndP hp hu k⟩
    · obtain ⟨c, e⟩ := cell_has (n := s.heap.objs.size + 1) k
      refine .inr ⟨.inl k, c, e, ?_⟩
      have q := x.cell y c e
      rw [bindC_get ndP hp hu (by show scope.names.lookup y ≠ _; rw [k]; decide)] at q
      exact q
  · exact e0.hok.fresh (Nat.le_of_lt (x.above y c (PySem.mem_of_lookup h)))
  · exact absurd (show q ∈ ([] : List (Addr × Obj)) from hq) (by simp)
  · unfold L2.start
    show _ = N.length
    rw [List.length_append, List.length_map, List.length_replicate]
    omega
section
variable {P : Program} {w : World} {K : PySem.W.Frag} {mg : Str → Option Value} {base : Heap}
theorem fun_okC {x qual : Str} {st : Stmt} {f : Addr} {fd : FuncData} {N ps : List Str} {k : Nat} {sp : Sp} (F : Fun K x qual st f fd) (S : FnScope N ps (defScope st)) (len : ∀ vs H Q E, sp vs H Q E → vs.length = ps.length)
    (hbody : ∀ (cdv : Value) (A : Around) (outer : List Env) (s : Shared) (H : Hp) (vs : List V) (Q : VK) (E : XK), RoomC k (A.deeper (envOfC qual (defScope st) s.heap.objs.size f cdv)) → sp vs H Q E →
      ∃ t, PSs (cxC CX0 P w K mg base N qual (defScope st) f cdv A outer s H E).nox (defBody st) t ∧ t { nx := fun _ H' => Q .non H', rt := Q } (L2.start N vs) H) : FnC P w K mg base CX0 (k + 1) f fd ps sp := by
  obtain ⟨oc, od, kV, doc, pm, an, cdv, ct, osl, rfl, lk, hcd⟩ := F.ex
  refine ⟨len, fun A outer s H args us vs Q E hr e0 hb r hsp => ?_⟩
  have hl := len _ _ _ _ hsp
  have KX : K.In s.heap := e0.mod.kin.keeps fun b o e => (e0.bs b o e).1
  have lim : s.heap.NoLimit := e0.mod.nolimit.keeps fun b o e => (e0.bs b o e).1
  have hkind : ∀ y ∈ ps.zip us, (defScope st).names.lookup y.1 = some .local ∨ ((defScope st).names.lookup y.1 = some .cell ∧ ((cellsFrom (s.heap.objs.size + 1) (defScope st).names []).lookup y.1).isSome = true) := fun ⟨n, v⟩ hy => by
    rcases S.par n (List.of_mem_zip hy).1 with q | q
    · exact .inl q
    · exact .inr ⟨q, PySem.W.cellsFrom_some _ _ _ (.inl q)⟩
  refine codeAny_call_function (by have := hr.dp; omega) (KX _ _ lk) rfl S.co S.gen rfl (PySem.W.codeRec_of KX hcd) (hb _ _ _ _ ?_)
  refine wpAny_newFunctionEnv_cells S.kind hkind fun env he s1 x => ?_
  subst he
  refine ⟨lim.keeps x.toInCall.keep, codeAny_func ?_⟩
  obtain ⟨t, ht, hq⟩ := hbody cdv A outer s H vs Q E (hr.deeper _) hsp
  have I : Inv (cxC CX0 P w K mg base N qual (defScope st) f cdv A outer s H E) [] (L2.start N vs) H s1 := inv_startC S e0 hl r x
  refine wpAny_mono (ht.nox.run [] s1 (L2.start N vs) H _ I hq) (fun fl s' hs => ?_) fun e s' hs => hs
  have fin : ∀ {σ' : St} {H' : Hp} {v : V} {u : Value}, Inv (cxC CX0 P w K mg base N qual (defScope st) f cdv A outer s H E) [] σ' H' s' → RelV v u → Q v H' → CE outer P w H s Q u s' :=
    fun {σ' H' v u} J rv q => ⟨v, H', J.os, J.bare, J.base, J.hok, rv, q⟩
  cases fl with
  | ret u =>
    obtain ⟨v, σ', H', J, rv, q⟩ := hs
    exact fin J rv q
  | next =>
    obtain ⟨σ', H', J, q⟩ := hs
    exact fin (v := V.non) (u := Value.none) J rfl q
  | brk =>
    obtain ⟨_, _, _, q⟩ := hs
    exact False.elim q
  | cont =>
    obtain ⟨_, _, _, q⟩ := hs
    exact False.elim q
theorem fn_dC {x qual : Str} {st : Stmt} {f : Addr} {fd : FuncData} {N ps : List Str} {k : Nat} {dsp : DSp} {g : GS} (F : Fun K x qual st f fd) (S : FnScope N ps (defScope st)) (len : ∀ ds O R RE, dsp ds O R RE → ds.length = ps.length)
    (hder : ∀ (cdv : Value) (A : Around) (outer : List Env) (s : Shared) (H : Hp) (E : XK), RoomC k (A.deeper (envOfC qual (defScope st) s.heap.objs.size f cdv)) →
      DSs MT (cxC CX0 P w K mg base N qual (defScope st) f cdv A outer s H E).nox (defBody st) g)
    (hread : ∀ ds O R RE, dsp ds O R RE → g { nx := fun _ O' => R .non O', rt := R } (startD N ds) O) : FnC P w K mg base CX0 (k + 1) f fd ps (liftSp K dsp) := by
  refine fun_okC F S (fun vs H Q E h => ?_) fun cdv A outer s H vs Q E hr h => ?_
  · obtain ⟨F, O, P, ds, R, RE, g, r, q, _⟩ := h
    rw [← r.length]; exact len ds O R RE q
  · obtain ⟨F, O, P, ds, R, RE, gd, r, q, po, _⟩ := h
    refine ⟨_, hder cdv A outer s H E hr, F, O, P, startD N ds, { nx := fun _ O' => R .non O', rt := R }, gd, ?_, hread ds O R RE q, ⟨fun ρ O' F' H' σ q1 s1 g1 _ => ?_, po, fun _ _ _ _ _ z => z.elim, fun _ _ _ _ _ z => z.elim⟩⟩
    · unfold startD L2.start
      rw [r.length]
      exact envOk_start _ r
    · exact po .non O' F' H' .non q1 s1 g1 (by simp only [Rep])
end
section
variable {X : Cx} {e : Expr} {es : List Expr} {fr : FA} {k : Nat} {f : Addr} {fd : FuncData} {ps : List Str} {dsp : DSp} {x : Str} {st : Stmt} {p pos : Pos}
theorem de_callC (N : Fn X.K X.mg x st ps f fd) (G : FnC X.prog X.w X.K X.mg X.base CX0 k f fd ps (liftSp X.K dsp)) (hr : RoomC k X.A) (hg : Gl X x)
    (ha : DA M X (e :: es) fr) (hdb : (x == ("__debug__" : Str)) = false := by decide) (he : starEach (e :: es) X.env = (false, eval e X.env) :: starEach es X.env := by rfl) (hpl : (backTo pos (starEach es X.env)).any (·.1) = false := by rfl) :
    DE M X (.Call (.Name x p) (e :: es) [] pos) (fCall dsp fr) := by
  refine ⟨fun pins s σ H Q I h => ?_⟩
  obtain ⟨F, O, P, ρ, R, g, en, q, po⟩ := h
  refine wpAny_Call_Name_kw (ld_glob I hg N.m ?_ hdb)
  refine PySem.W.callWith_K (h₀ := X.base) I.ok.mod.kin N.F.kp (thn (ha.run pos pins s σ H (fun vs H1 => liftSp X.K dsp vs H1 Q E0) I ⟨F, O, P, ρ, _, g, en, q, fun ds O1 F1 H1 vs q1 s1 g1 r1 => ⟨F1, O1, P, ds, R, X0, g1.mt, r1, q1, po.mt g1 s1, fun _ _ _ _ _ _ z => z.elim⟩⟩) fun us s1 ⟨vs, H1, I1, r, q2⟩ => ⟨I1.kIn, ?_⟩) he hpl
  have hl : us.length = ps.length := by rw [← r.length]; exact G.len _ _ _ _ q2
  have b := N.b s1 us I1.kIn (by rw [List.append_nil]; exact hl)
  rw [List.append_nil] at b
  refine wpAny_call (codeAny_mono (G.run X.A X.stack s1 H1 ⟨us, []⟩ us vs Q E0 hr I1.env0 b r q2) fun r s' hq => ?_)
  cases r with
  | error e => exact pass0 pins σ H1 s1 e s' I1 hq
  | ok fl =>
    cases fl with
    | ret u => exact I1.after hq
    | next => exact False.elim hq
    | brk => exact False.elim hq
    | cont => exact False.elim hq
end
end Kf
set_option maxHeartbeats 1000000
/-! Dl27: exceptions made as values, with and without an own __init__ that keeps one field; the latter raised. -/
namespace Kf
open PySem PySem.Spec L2
open PyProof.Rows hiding St
variable {M : MX}
/-! ### without an own __init__ -/
section
variable {X : Cx} {e : Expr} {fe : FE} {x : Str} {C : Addr} {p pos : Pos}
end
/-! ### with an own __init__ -/
/-- the base class of all own exceptions: its __init__ is ValueError's -/
structure BaseX (K : PySem.W.Frag) (mg : Str → Option Value) (x : Str) (B : Addr) : Prop where
  g : mg x = some (.ref B)
  sp : PySem.W.specialIn K (.ref B) "__getattribute__" = some (some (.builtin "type.__getattribute__"))
  ty : PySem.W.typeIn K (.ref B) = some (.type "type")
  rd : PySem.W.readsIn K B (.type "type") = true
  fc : PySem.W.findCls K (.ref B) (.type "type") "__init__" = some (.val (.builtin "ValueError.__init__"))
section
variable {X : Cx} {e : Expr} {es : List Expr} {ta : TA} {x : Str} {B : Addr} {p1 p2 pos : Pos}
end
/-- an own class of exceptions whose __init__ keeps what it is given as the field f -/
structure ExI (K : PySem.W.Frag) (mg : Str → Option Value) (x f : Str) (C fI : Addr) (fd : FuncData) (qual : Str) (st : Stmt) (ps : List Str) : Prop where
  T : OexC K C
  g : mg x = some (.ref C)
  iC : PySem.W.findIn K (.ref C) "__init__" = some (some (.ref fI))
  tI : PySem.W.typeIn K (.ref fI) = some (.type "function")
  no : PySem.W.findIn K (.ref C) f = some none
  F : Fun K "__init__" qual st fI fd
  b : Binds K fd ps []
section
variable {X : Cx} {CX : CXT} {e : Expr} {es : List Expr} {ta : TA} {x f : Str} {C fI : Addr} {fd : FuncData} {qual : Str} {st : Stmt} {ps : List Str} {k : Nat} {p pos : Pos}
end
section
variable {X : Cx} {e : Expr} {es : List Expr} {fr : FA} {x f : Str} {C fI : Addr} {fd : FuncData} {qual : Str} {st : Stmt} {ps : List Str} {k : Nat} {p pos pos' : Pos} {RX : XW} {W : WX}
end
section
variable {P : Program} {w : World} {K : PySem.W.Frag} {mg : Str → Option Value} {base : Heap}
end
end Kf
namespace Kf
open PySem PySem.Spec L2
open PyProof.Rows hiding St
def topS (i : Nat) : Stmt := PySem.Challenge.pw_kindfill_k19_towers_too_long.main.body.getD i (.Pass ⟨0, 0, 0, 0⟩)
/-! ### inner -/
abbrev s_inner : Stmt := topS 12
abbrev N_inner : List Str := ["program"]
abbrev P_inner : List Str := ["program"]
theorem sc_inner : FnScope N_inner P_inner (defScope s_inner) := ⟨rfl, rfl, rfl, by decide +kernel, rfl, by decide +kernel, by decide +kernel⟩
def g_inner : GS :=
  (gSeq (gIf (fTest (fOp (rEqD false) (fOp rIxD (fVar 0) (fC (.int 0))) (fC (.str "take")))) (gRet (fLstO (fCons (fOp rIxD (fVar 0) (fC (.int 3))) fNil))) gNext) (gSeq (gIf (fTest (fOp (rInD false) (fOp rIxD (fVar 0) (fC (.int 0))) (fTup (fCons (fC (.str "give")) (fCons (fC (.str "pair")) (fCons (fC (.str "first")) (fCons (fC (.str "second")) fNil))))))) (gRet (fCB rList1O (fCons (fSl rSlD (fVar 0) (fPart (fC (.int 1))) fNoPart) fNil))) gNext) (gRet (fLstO fNil))))
theorem der_inner {P : Program} {w : World} {K : PySem.W.Frag} {mg : Str → Option Value} {base : Heap} {k : Nat} {f : Addr} (m_list : mg "list" = none)
    (cdv : Value) (A : Around) (outer : List Env) (s : Shared) (H : Hp) (E : XK) (hr : Room k (A.deeper (envOfC "inner" (defScope s_inner) s.heap.objs.size f cdv))) :
    DSs MT (cxOf CX0 P w K mg base N_inner "inner" (defScope s_inner) f cdv A outer s H E).nox (defBody s_inner) (g_inner) :=
  (dss_cons (ds_if (dt_cmp (od_eq hr.u200) (de_ix (de_var 0) de_int) de_str (nomark _)) (dss_one (ds_ret (de_lstO (da_cons (de_ix (de_var 0) de_int) da_nil)))) dss_nil) (dss_cons (ds_if (dt_cmp (od_in hr.u200) (de_ix (de_var 0) de_int) (de_tup (da_cons de_str (da_cons de_str (da_cons de_str (da_cons de_str da_nil))))) (by rfl)) (dss_one (ds_ret (de_callTy cd_list1O (by rfl) m_list bb_list (da_cons (de_slice (de_var 0) (do_some de_int) do_none) da_nil)))) dss_nil) (dss_one (ds_ret (de_lstO da_nil)))))
/-! ### parts_of -/
abbrev s_parts_of : Stmt := topS 13
abbrev N_parts_of : List Str := ["program", "part"]
abbrev P_parts_of : List Str := ["program"]
theorem sc_parts_of : FnScope N_parts_of P_parts_of (defScope s_parts_of) := ⟨rfl, rfl, rfl, by decide +kernel, rfl, by decide +kernel, by decide +kernel⟩
def g_parts_of (sp_inner sp_parts_of : DSp) : GS :=
  (gRet (fOp rAddD (fC (.int 1)) (fCB rSumD (fCons (fLc (fiList (fFrz (fCall sp_inner (fCons (fVar 0) fNil)))) (.nm 1) fYes (fCall sp_parts_of (fCons (fVar 1) fNil)) [1]) fNil))))
theorem der_parts_of {P : Program} {w : World} {K : PySem.W.Frag} {mg : Str → Option Value} {base : Heap} {k : Nat} {f : Addr} {sp_inner sp_parts_of : DSp} {a_inner : Addr} {fd_inner : FuncData} (n_inner : Fn K mg "inner" s_inner P_inner a_inner fd_inner) (G_inner : FnOk P w K mg base CX0 k a_inner fd_inner P_inner (liftSp K sp_inner)) {a_parts_of : Addr} {fd_parts_of : FuncData} (n_parts_of : Fn K mg "parts_of" s_parts_of P_parts_of a_parts_of fd_parts_of) (G_parts_of : FnOk P w K mg base CX0 k a_parts_of fd_parts_of P_parts_of (liftSp K sp_parts_of)) (m_sum : mg "sum" = none)
    (cdv : Value) (A : Around) (outer : List Env) (s : Shared) (H : Hp) (E : XK) (hr : Room k (A.deeper (envOfC "parts_of" (defScope s_parts_of) s.heap.objs.size f cdv))) :
    DSs MT (cxOf CX0 P w K mg base N_parts_of "parts_of" (defScope s_parts_of) f cdv A outer s H E).nox (defBody s_parts_of) (g_parts_of sp_inner sp_parts_of) :=
  (dss_one (ds_ret (de_op od_add de_int (de_callB (cd_sum (by rfl)) (by rfl) m_sum bb_sum (da_cons (de_lc (by rfl) sc_parts_of.nd (di_list (de_frz (de_callN n_inner G_inner hr (by rfl) (da_cons (de_var 0) da_nil)))) (blkOk_by (own := [("part", 1)]) (N := N_parts_of) (sc := defScope s_parts_of) (by decide +kernel)) (fun _ _ _ _ _ => (dp_name (i := 1) sc_parts_of.nd (by rfl) (by first | exact Or.inl rfl | exact Or.inr rfl))) (fun _ _ _ _ _ => dts_nil) (fun _ _ _ _ _ => (de_callN n_parts_of G_parts_of hr (by rfl) (da_cons (de_var 1) da_nil)))) da_nil)))))
/-! ### deep_of -/
abbrev s_deep_of : Stmt := topS 14
abbrev N_deep_of : List Str := ["program", "part"]
abbrev P_deep_of : List Str := ["program"]
theorem sc_deep_of : FnScope N_deep_of P_deep_of (defScope s_deep_of) := ⟨rfl, rfl, rfl, by decide +kernel, rfl, by decide +kernel, by decide +kernel⟩
def g_deep_of (sp_inner sp_deep_of : DSp) : GS :=
  (gRet (fMaxD 0 (fLc (fiList (fFrz (fCall sp_inner (fCons (fVar 0) fNil)))) (.nm 1) fYes (fOp rAddD (fC (.int 1)) (fCall sp_deep_of (fCons (fVar 1) fNil))) [1])))
theorem der_deep_of {P : Program} {w : World} {K : PySem.W.Frag} {mg : Str → Option Value} {base : Heap} {k : Nat} {f : Addr} {sp_inner sp_deep_of : DSp} {a_inner : Addr} {fd_inner : FuncData} (n_inner : Fn K mg "inner" s_inner P_inner a_inner fd_inner) (G_inner : FnOk P w K mg base CX0 k a_inner fd_inner P_inner (liftSp K sp_inner)) {a_deep_of : Addr} {fd_deep_of : FuncData} (n_deep_of : Fn K mg "deep_of" s_deep_of P_deep_of a_deep_of fd_deep_of) (G_deep_of : FnOk P w K mg base CX0 k a_deep_of fd_deep_of P_deep_of (liftSp K sp_deep_of)) (m_max : mg "max" = none)
    (cdv : Value) (A : Around) (outer : List Env) (s : Shared) (H : Hp) (E : XK) (hr : Room k (A.deeper (envOfC "deep_of" (defScope s_deep_of) s.heap.objs.size f cdv))) :
    DSs MT (cxOf CX0 P w K mg base N_deep_of "deep_of" (defScope s_deep_of) f cdv A outer s H E).nox (defBody s_deep_of) (g_deep_of sp_inner sp_deep_of) :=
  (dss_one (ds_ret (de_maxD (by rfl) (by rfl) m_max bb_max (de_lc (by rfl) sc_deep_of.nd (di_list (de_frz (de_callN n_inner G_inner hr (by rfl) (da_cons (de_var 0) da_nil)))) (blkOk_by (own := [("part", 1)]) (N := N_deep_of) (sc := defScope s_deep_of) (by decide +kernel)) (fun _ _ _ _ _ => (dp_name (i := 1) sc_deep_of.nd (by rfl) (by first | exact Or.inl rfl | exact Or.inr rfl))) (fun _ _ _ _ _ => dts_nil) (fun _ _ _ _ _ => (de_op od_add de_int (de_callN n_deep_of G_deep_of hr (by rfl) (da_cons (de_var 1) da_nil))))))))
/-! ### part_at -/
abbrev s_part_at : Stmt := topS 15
abbrev N_part_at : List Str := ["program", "place", "step", "some"]
abbrev P_part_at : List Str := ["program", "place"]
theorem sc_part_at : FnScope N_part_at P_part_at (defScope s_part_at) := ⟨rfl, rfl, rfl, by decide +kernel, rfl, by decide +kernel, by decide +kernel⟩
def g_part_at (sp_inner : DSp) : GS :=
  (gSeq (gForE (fVar 1) (.nm 2) (gSeq (gSet (fFrz (fCall sp_inner (fCons (fVar 0) fNil))) 3) (gSeq (gIf (fNot (fTest (fChain rLeD rLtD (fC (.int 0)) (fVar 2) (fCB rLenD (fCons (fVar 3) fNil))))) (gRet (fC .non)) gNext) (gSet (fOp rIxD (fVar 3) (fVar 2)) 0)))) (gRet (fVar 0)))
theorem der_part_at {P : Program} {w : World} {K : PySem.W.Frag} {mg : Str → Option Value} {base : Heap} {k : Nat} {f : Addr} {sp_inner : DSp} {a_inner : Addr} {fd_inner : FuncData} (n_inner : Fn K mg "inner" s_inner P_inner a_inner fd_inner) (G_inner : FnOk P w K mg base CX0 k a_inner fd_inner P_inner (liftSp K sp_inner)) (m_len : mg "len" = none)
    (cdv : Value) (A : Around) (outer : List Env) (s : Shared) (H : Hp) (E : XK) (hr : Room k (A.deeper (envOfC "part_at" (defScope s_part_at) s.heap.objs.size f cdv))) :
    DSs MT (cxOf CX0 P w K mg base N_part_at "part_at" (defScope s_part_at) f cdv A outer s H E).nox (defBody s_part_at) (g_part_at sp_inner) :=
  (dss_cons (ds_forE PassesOwn.never rfl (de_var 1) (dp_name (i := 2) sc_part_at.nd (by rfl) (by first | exact Or.inl rfl | exact Or.inr rfl)) (dss_cons (ds_set (i := 3) sc_part_at.nd rfl (by first | exact Or.inl rfl | exact Or.inr rfl) (de_frz (de_callN n_inner G_inner hr (by rfl) (da_cons (de_var 0) da_nil)))) (dss_cons (ds_if (dt_not (dt_chain od_le od_lt de_int (de_var 2) (de_callB cd_len (by rfl) m_len bb_len (da_cons (de_var 3) da_nil)))) (dss_one (ds_ret de_non)) dss_nil) (dss_one (ds_set (i := 0) sc_part_at.nd rfl (by first | exact Or.inl rfl | exact Or.inr rfl) (de_ix (de_var 3) (de_var 2))))))) (dss_one (ds_ret (de_var 0))))
/-! ### with_inner -/
abbrev s_with_inner : Stmt := topS 16
abbrev N_with_inner : List Str := ["program", "some"]
abbrev P_with_inner : List Str := ["program", "some"]
theorem sc_with_inner : FnScope N_with_inner P_with_inner (defScope s_with_inner) := ⟨rfl, rfl, rfl, by decide +kernel, rfl, by decide +kernel, by decide +kernel⟩
def g_with_inner : GS :=
  (gSeq (gIf (fTest (fOp (rEqD false) (fOp rIxD (fVar 0) (fC (.int 0))) (fC (.str "take")))) (gRet (fTup (fCons (fOp rIxD (fVar 0) (fC (.int 0))) (fCons (fOp rIxD (fVar 0) (fC (.int 1))) (fCons (fOp rIxD (fVar 0) (fC (.int 2))) (fCons (fOp rIxD (fVar 1) (fC (.int 0))) fNil)))))) gNext) (gSeq (gIf (fTest (fOp (rEqD false) (fVar 1) (fLst fNil))) (gRet (fVar 0)) gNext) (gRet (fOp rAddD (fTup (fCons (fOp rIxD (fVar 0) (fC (.int 0))) fNil)) (fCB rTup1 (fCons (fVar 1) fNil))))))
theorem der_with_inner {P : Program} {w : World} {K : PySem.W.Frag} {mg : Str → Option Value} {base : Heap} {k : Nat} {f : Addr} (m_tuple : mg "tuple" = none)
    (cdv : Value) (A : Around) (outer : List Env) (s : Shared) (H : Hp) (E : XK) (hr : Room k (A.deeper (envOfC "with_inner" (defScope s_with_inner) s.heap.objs.size f cdv))) :
    DSs MT (cxOf CX0 P w K mg base N_with_inner "with_inner" (defScope s_with_inner) f cdv A outer s H E).nox (defBody s_with_inner) (g_with_inner) :=
  (dss_cons (ds_if (dt_cmp (od_eq hr.u200) (de_ix (de_var 0) de_int) de_str (nomark _)) (dss_one (ds_ret (de_tup (da_cons (de_ix (de_var 0) de_int) (da_cons (de_ix (de_var 0) de_int) (da_cons (de_ix (de_var 0) de_int) (da_cons (de_ix (de_var 1) de_int) da_nil))))))) dss_nil) (dss_cons (ds_if (dt_cmp (od_eq hr.u200) (de_var 1) (de_lst da_nil) (nomark _)) (dss_one (ds_ret (de_var 0))) dss_nil) (dss_one (ds_ret (de_op od_add (de_tup (da_cons (de_ix (de_var 0) de_int) da_nil)) (de_callTy cd_tup1 (by rfl) m_tuple bb_tuple (da_cons (de_var 1) da_nil)))))))
/-! ### with_part -/
abbrev s_with_part : Stmt := topS 17
abbrev N_with_part : List Str := ["program", "place", "part", "some"]
abbrev P_with_part : List Str := ["program", "place", "part"]
theorem sc_with_part : FnScope N_with_part P_with_part (defScope s_with_part) := ⟨rfl, rfl, rfl, by decide +kernel, rfl, by decide +kernel, by decide +kernel⟩
def g_with_part (sp_inner sp_with_part sp_with_inner : DSp) : GS :=
  (gSeq (gIf (fTest (fOp (rEqD false) (fVar 1) (fLst fNil))) (gRet (fVar 2)) gNext) (gSeq (gSet (fCall sp_inner (fCons (fVar 0) fNil)) 3) (gSeq (gSetIx (fVar 3) (fOp rIxD (fVar 1) (fC (.int 0))) (fCall sp_with_part (fCons (fOp rIxD (fVar 3) (fOp rIxD (fVar 1) (fC (.int 0)))) (fCons (fSl rSlD (fVar 1) (fPart (fC (.int 1))) fNoPart) (fCons (fVar 2) fNil))))) (gRet (fCall sp_with_inner (fCons (fVar 0) (fCons (fVar 3) fNil)))))))
theorem der_with_part {P : Program} {w : World} {K : PySem.W.Frag} {mg : Str → Option Value} {base : Heap} {k : Nat} {f : Addr} {sp_inner sp_with_part sp_with_inner : DSp} {a_inner : Addr} {fd_inner : FuncData} (n_inner : Fn K mg "inner" s_inner P_inner a_inner fd_inner) (G_inner : FnOk P w K mg base CX0 k a_inner fd_inner P_inner (liftSp K sp_inner)) {a_with_part : Addr} {fd_with_part : FuncData} (n_with_part : Fn K mg "with_part" s_with_part P_with_part a_with_part fd_with_part) (G_with_part : FnOk P w K mg base CX0 k a_with_part fd_with_part P_with_part (liftSp K sp_with_part)) {a_with_inner : Addr} {fd_with_inner : FuncData} (n_with_inner : Fn K mg "with_inner" s_with_inner P_with_inner a_with_inner fd_with_inner) (G_with_inner : FnOk P w K mg base CX0 k a_with_inner fd_with_inner P_with_inner (liftSp K sp_with_inner))
    (cdv : Value) (A : Around) (outer : List Env) (s : Shared) (H : Hp) (E : XK) (hr : Room k (A.deeper (envOfC "with_part" (defScope s_with_part) s.heap.objs.size f cdv))) :
    DSs MT (cxOf CX0 P w K mg base N_with_part "with_part" (defScope s_with_part) f cdv A outer s H E).nox (defBody s_with_part) (g_with_part sp_inner sp_with_part sp_with_inner) :=
  (dss_cons (ds_if (dt_cmp (od_eq hr.u200) (de_var 1) (de_lst da_nil) (nomark _)) (dss_one (ds_ret (de_var 2))) dss_nil) (dss_cons (ds_set (i := 3) sc_with_part.nd rfl (by first | exact Or.inl rfl | exact Or.inr rfl) (de_callN n_inner G_inner hr (by rfl) (da_cons (de_var 0) da_nil))) (dss_cons (ds_setIx (de_var 3) (de_ix (de_var 1) de_int) (de_callN n_with_part G_with_part hr (by rfl) (da_cons (de_ix (de_var 3) (de_ix (de_var 1) de_int)) (da_cons (de_slice (de_var 1) (do_some de_int) do_none) (da_cons (de_var 2) da_nil))))) (dss_one (ds_ret (de_callN n_with_inner G_with_inner hr (by rfl) (da_cons (de_var 0) (da_cons (de_var 3) da_nil))))))))
/-! ### tidied_within -/
abbrev s_tidied_within : Stmt := topS 19
abbrev N_tidied_within : List Str := ["program", "taken", "k", "body", "part"]
abbrev P_tidied_within : List Str := ["program", "taken"]
theorem sc_tidied_within : FnScope N_tidied_within P_tidied_within (defScope s_tidied_within) := ⟨rfl, rfl, rfl, by decide +kernel, rfl, by decide +kernel, by decide +kernel⟩
def g_tidied_within (sp_tidied_within sp_with_inner sp_inner : DSp) : GS :=
  (gSeq (gIf (fTest (fOp (rEqD false) (fOp rIxD (fVar 0) (fC (.int 0))) (fC (.str "name")))) (gSeq (gFor (fiRevR (fCB rLenD (fCons (fVar 1) fNil))) (.nm 2) (gIf (fTest (fOp (rEqD false) (fOp rIxD (fVar 1) (fVar 2)) (fOp rIxD (fVar 0) (fC (.int 1))))) (gRet (fTup (fCons (fC (.str "name")) (fCons (fOp rAddD (fC (.str "x")) (fCB rStr1 (fCons (fVar 2) fNil))) fNil)))) gNext)) (gRet (fVar 0))) gNext) (gSeq (gIf (fTest (fOp (rEqD false) (fOp rIxD (fVar 0) (fC (.int 0))) (fC (.str "take")))) (gSeq (gSet (fCall sp_tidied_within (fCons (fOp rIxD (fVar 0) (fC (.int 3))) (fCons (fOp rAddD (fVar 1) (fLst (fCons (fOp rIxD (fVar 0) (fC (.int 1))) fNil))) fNil))) 3) (gRet (fTup (fCons (fC (.str "take")) (fCons (fOp rAddD (fC (.str "x")) (fCB rStr1 (fCons (fCB rLenD (fCons (fVar 1) fNil)) fNil))) (fCons (fOp rIxD (fVar 0) (fC (.int 2))) (fCons (fVar 3) fNil))))))) gNext) (gRet (fCall sp_with_inner (fCons (fVar 0) (fCons (fLc (fiList (fFrz (fCall sp_inner (fCons (fVar 0) fNil)))) (.nm 4) fYes (fCall sp_tidied_within (fCons (fVar 4) (fCons (fVar 1) fNil))) [4]) fNil))))))
theorem der_tidied_within {P : Program} {w : World} {K : PySem.W.Frag} {mg : Str → Option Value} {base : Heap} {k : Nat} {f : Addr} {sp_tidied_within sp_with_inner sp_inner : DSp} {a_tidied_within : Addr} {fd_tidied_within : FuncData} (n_tidied_within : Fn K mg "tidied_within" s_tidied_within P_tidied_within a_tidied_within fd_tidied_within) (G_tidied_within : FnOk P w K mg base CX0 k a_tidied_within fd_tidied_within P_tidied_within (liftSp K sp_tidied_within)) {a_with_inner : Addr} {fd_with_inner : FuncData} (n_with_inner : Fn K mg "with_inner" s_with_inner P_with_inner a_with_inner fd_with_inner) (G_with_inner : FnOk P w K mg base CX0 k a_with_inner fd_with_inner P_with_inner (liftSp K sp_with_inner)) {a_inner : Addr} {fd_inner : FuncData} (n_inner : Fn K mg "inner" s_inner P_inner a_inner fd_inner) (G_inner : FnOk P w K mg base CX0 k a_inner fd_inner P_inner (liftSp K sp_inner)) (m_reversed : mg "reversed" = none) (m_range : mg "range" = none) (m_len : mg "len" = none) (m_str : mg "str" = none)
    (cdv : Value) (A : Around) (outer : List Env) (s : Shared) (H : Hp) (E : XK) (hr : Room k (A.deeper (envOfC "tidied_within" (defScope s_tidied_within) s.heap.objs.size f cdv))) :
    DSs MT (cxOf CX0 P w K mg base N_tidied_within "tidied_within" (defScope s_tidied_within) f cdv A outer s H E).nox (defBody s_tidied_within) (g_tidied_within sp_tidied_within sp_with_inner sp_inner) :=
  (dss_cons (ds_if (dt_cmp (od_eq hr.u200) (de_ix (de_var 0) de_int) de_str (nomark _)) (dss_cons (ds_for PassesOwn.never rfl (di_revR (by rfl) m_reversed (by rfl) m_range (de_callB cd_len (by rfl) m_len bb_len (da_cons (de_var 1) da_nil))) (dp_name (i := 2) sc_tidied_within.nd (by rfl) (by first | exact Or.inl rfl | exact Or.inr rfl)) (dss_one (ds_if (dt_cmp (od_eq hr.u200) (de_ix (de_var 1) (de_var 2)) (de_ix (de_var 0) de_int) (nomark _)) (dss_one (ds_ret (de_tup (da_cons de_str (da_cons (de_op od_add de_str (de_callTy cd_str1 (by rfl) m_str bb_str (da_cons (de_var 2) da_nil))) da_nil))))) dss_nil))) (dss_one (ds_ret (de_var 0)))) dss_nil) (dss_cons (ds_if (dt_cmp (od_eq hr.u200) (de_ix (de_var 0) de_int) de_str (nomark _)) (dss_cons (ds_set (i := 3) sc_tidied_within.nd rfl (by first | exact Or.inl rfl | exact Or.inr rfl) (de_callN n_tidied_within G_tidied_within hr (by rfl) (da_cons (de_ix (de_var 0) de_int) (da_cons (de_op od_add (de_var 1) (de_lst (da_cons (de_ix (de_var 0) de_int) da_nil))) da_nil)))) (dss_one (ds_ret (de_tup (da_cons de_str (da_cons (de_op od_add de_str (de_callTy cd_str1 (by rfl) m_str bb_str (da_cons (de_callB cd_len (by rfl) m_len bb_len (da_cons (de_var 1) da_nil)) da_nil))) (da_cons (de_ix (de_var 0) de_int) (da_cons (de_var 3) da_nil)))))))) dss_nil) (dss_one (ds_ret (de_callN n_with_inner G_with_inner hr (by rfl) (da_cons (de_var 0) (da_cons (de_lc (by rfl) sc_tidied_within.nd (di_list (de_frz (de_callN n_inner G_inner hr (by rfl) (da_cons (de_var 0) da_nil)))) (blkOk_by (own := [("part", 4)]) (N := N_tidied_within) (sc := defScope s_tidied_within) (by decide +kernel)) (fun _ _ _ _ _ => (dp_name (i := 4) sc_tidied_within.nd (by rfl) (by first | exact Or.inl rfl | exact Or.inr rfl))) (fun _ _ _ _ _ => dts_nil) (fun _ _ _ _ _ => (de_callN n_tidied_within G_tidied_within hr (by rfl) (da_cons (de_var 4) (da_cons (de_var 1) da_nil))))) da_nil)))))))
/-! ### tidied -/
abbrev s_tidied : Stmt := topS 20
abbrev N_tidied : List Str := ["program"]
abbrev P_tidied : List Str := ["program"]
theorem sc_tidied : FnScope N_tidied P_tidied (defScope s_tidied) := ⟨rfl, rfl, rfl, by decide +kernel, rfl, by decide +kernel, by decide +kernel⟩
def g_tidied (sp_tidied_within : DSp) : GS :=
  (gRet (fCall sp_tidied_within (fCons (fVar 0) (fCons (fLst fNil) fNil))))
theorem der_tidied {P : Program} {w : World} {K : PySem.W.Frag} {mg : Str → Option Value} {base : Heap} {k : Nat} {f : Addr} {sp_tidied_within : DSp} {a_tidied_within : Addr} {fd_tidied_within : FuncData} (n_tidied_within : Fn K mg "tidied_within" s_tidied_within P_tidied_within a_tidied_within fd_tidied_within) (G_tidied_within : FnOk P w K mg base CX0 k a_tidied_within fd_tidied_within P_tidied_within (liftSp K sp_tidied_within))
    (cdv : Value) (A : Around) (outer : List Env) (s : Shared) (H : Hp) (E : XK) (hr : Room k (A.deeper (envOfC "tidied" (defScope s_tidied) s.heap.objs.size f cdv))) :
    DSs MT (cxOf CX0 P w K mg base N_tidied "tidied" (defScope s_tidied) f cdv A outer s H E).nox (defBody s_tidied) (g_tidied sp_tidied_within) :=
  (dss_one (ds_ret (de_callN n_tidied_within G_tidied_within hr (by rfl) (da_cons (de_var 0) (da_cons (de_lst da_nil) da_nil)))))
/-! ### can_step -/
abbrev s_can_step : Stmt := topS 22
abbrev N_can_step : List Str := ["part"]
abbrev P_can_step : List Str := ["part"]
theorem sc_can_step : FnScope N_can_step P_can_step (defScope s_can_step) := ⟨rfl, rfl, rfl, by decide +kernel, rfl, by decide +kernel, by decide +kernel⟩
def g_can_step : GS :=
  (gSeq (gIf (fTest (fOp (rEqD false) (fOp rIxD (fVar 0) (fC (.int 0))) (fC (.str "give")))) (gRet (fOp (rEqD false) (fOp rIxD (fOp rIxD (fVar 0) (fC (.int 1))) (fC (.int 0))) (fC (.str "take")))) gNext) (gRet (fAndV (fOp (rInD false) (fOp rIxD (fVar 0) (fC (.int 0))) (fTup (fCons (fC (.str "first")) (fCons (fC (.str "second")) fNil)))) (fOp (rEqD false) (fOp rIxD (fOp rIxD (fVar 0) (fC (.int 1))) (fC (.int 0))) (fC (.str "pair"))))))
theorem der_can_step {P : Program} {w : World} {K : PySem.W.Frag} {mg : Str → Option Value} {base : Heap} {k : Nat} {f : Addr} 
    (cdv : Value) (A : Around) (outer : List Env) (s : Shared) (H : Hp) (E : XK) (hr : Room k (A.deeper (envOfC "can_step" (defScope s_can_step) s.heap.objs.size f cdv))) :
    DSs MT (cxOf CX0 P w K mg base N_can_step "can_step" (defScope s_can_step) f cdv A outer s H E).nox (defBody s_can_step) (g_can_step) :=
  (dss_cons (ds_if (dt_cmp (od_eq hr.u200) (de_ix (de_var 0) de_int) de_str (nomark _)) (dss_one (ds_ret (de_cmp (od_eq hr.u200) (de_ix (de_ix (de_var 0) de_int) de_int) de_str (nomark _)))) dss_nil) (dss_one (ds_ret (de_and (de_cmp (od_in hr.u200) (de_ix (de_var 0) de_int) (de_tup (da_cons de_str (da_cons de_str da_nil))) (by rfl)) (de_one (de_cmp (od_eq hr.u200) (de_ix (de_ix (de_var 0) de_int) de_int) de_str (nomark _)))))))
/-! ### put_places -/
abbrev s_put_places : Stmt := topS 23
abbrev N_put_places : List Str := ["part", "place", "found", "k", "one"]
abbrev P_put_places : List Str := ["part", "place", "found"]
theorem sc_put_places : FnScope N_put_places P_put_places (defScope s_put_places) := ⟨rfl, rfl, rfl, by decide +kernel, rfl, by decide +kernel, by decide +kernel⟩
def g_put_places (sp_can_step sp_inner sp_put_places : DSp) : GS :=
  (gSeq (gIf (fTest (fCall sp_can_step (fCons (fVar 0) fNil))) (gDrop (fBM "list" rAppendD (fVar 2) (fCons (fVar 1) fNil))) gNext) (gFor (fiEnum (fCons (fFrz (fCall sp_inner (fCons (fVar 0) fNil))) fNil)) (.tp [(.nm 3), (.nm 4)]) (gDrop (fCall sp_put_places (fCons (fVar 4) (fCons (fOp rAddD (fVar 1) (fLst (fCons (fVar 3) fNil))) (fCons (fVar 2) fNil)))))))
theorem der_put_places {P : Program} {w : World} {K : PySem.W.Frag} {mg : Str → Option Value} {base : Heap} {k : Nat} {f : Addr} {sp_can_step sp_inner sp_put_places : DSp} {a_can_step : Addr} {fd_can_step : FuncData} (n_can_step : Fn K mg "can_step" s_can_step P_can_step a_can_step fd_can_step) (G_can_step : FnOk P w K mg base CX0 k a_can_step fd_can_step P_can_step (liftSp K sp_can_step)) {a_inner : Addr} {fd_inner : FuncData} (n_inner : Fn K mg "inner" s_inner P_inner a_inner fd_inner) (G_inner : FnOk P w K mg base CX0 k a_inner fd_inner P_inner (liftSp K sp_inner)) {a_put_places : Addr} {fd_put_places : FuncData} (n_put_places : Fn K mg "put_places" s_put_places P_put_places a_put_places fd_put_places) (G_put_places : FnOk P w K mg base CX0 k a_put_places fd_put_places P_put_places (liftSp K sp_put_places)) (m_enumerate : mg "enumerate" = none)
    (cdv : Value) (A : Around) (outer : List Env) (s : Shared) (H : Hp) (E : XK) (hr : Room k (A.deeper (envOfC "put_places" (defScope s_put_places) s.heap.objs.size f cdv))) :
    DSs MT (cxOf CX0 P w K mg base N_put_places "put_places" (defScope s_put_places) f cdv A outer s H E).nox (defBody s_put_places) (g_put_places sp_can_step sp_inner sp_put_places) :=
  (dss_cons (ds_if (dt_val (de_callN n_can_step G_can_step hr (by rfl) (da_cons (de_var 0) da_nil))) (dss_one (ds_expr (de_bm PySem.F.plainAttrs_list PySem.F.slot_list_append PySem.F.type_list_append md_append (de_var 2) (da_cons (de_var 1) da_nil)))) dss_nil) (dss_one (ds_for PassesOwn.never rfl (di_enum (by rfl) m_enumerate (da_cons (de_frz (de_callN n_inner G_inner hr (by rfl) (da_cons (de_var 0) da_nil))) da_nil)) (dp_tup (by rfl) (dps_cons (dp_name (i := 3) sc_put_places.nd (by rfl) (by first | exact Or.inl rfl | exact Or.inr rfl)) (dps_cons (dp_name (i := 4) sc_put_places.nd (by rfl) (by first | exact Or.inl rfl | exact Or.inr rfl)) dps_nil))) (dss_one (ds_expr (de_callN n_put_places G_put_places hr (by rfl) (da_cons (de_var 4) (da_cons (de_op od_add (de_var 1) (de_lst (da_cons (de_var 3) da_nil))) (da_cons (de_var 2) da_nil)))))))))
/-! ### step_places -/
abbrev s_step_places : Stmt := topS 24
abbrev N_step_places : List Str := ["program", "found"]
abbrev P_step_places : List Str := ["program"]
theorem sc_step_places : FnScope N_step_places P_step_places (defScope s_step_places) := ⟨rfl, rfl, rfl, by decide +kernel, rfl, by decide +kernel, by decide +kernel⟩
def g_step_places (sp_put_places : DSp) : GS :=
  (gSeq (gSet (fLstO fNil) 1) (gSeq (gDrop (fCall sp_put_places (fCons (fVar 0) (fCons (fLst fNil) (fCons (fVar 1) fNil))))) (gRetF (fVar 1))))
theorem der_step_places {P : Program} {w : World} {K : PySem.W.Frag} {mg : Str → Option Value} {base : Heap} {k : Nat} {f : Addr} {sp_put_places : DSp} {a_put_places : Addr} {fd_put_places : FuncData} (n_put_places : Fn K mg "put_places" s_put_places P_put_places a_put_places fd_put_places) (G_put_places : FnOk P w K mg base CX0 k a_put_places fd_put_places P_put_places (liftSp K sp_put_places))
    (cdv : Value) (A : Around) (outer : List Env) (s : Shared) (H : Hp) (E : XK) (hr : Room k (A.deeper (envOfC "step_places" (defScope s_step_places) s.heap.objs.size f cdv))) :
    DSs MT (cxOf CX0 P w K mg base N_step_places "step_places" (defScope s_step_places) f cdv A outer s H E).nox (defBody s_step_places) (g_step_places sp_put_places) :=
  (dss_cons (ds_set (i := 1) sc_step_places.nd rfl (by first | exact Or.inl rfl | exact Or.inr rfl) (de_lstO da_nil)) (dss_cons (ds_expr (de_callN n_put_places G_put_places hr (by rfl) (da_cons (de_var 0) (da_cons (de_lst da_nil) (da_cons (de_var 1) da_nil))))) (dss_one (ds_retF (de_var 1)))))
/-! ### name_count -/
abbrev s_name_count : Stmt := topS 29
abbrev N_name_count : List Str := ["part", "name", "one"]
abbrev P_name_count : List Str := ["part", "name"]
theorem sc_name_count : FnScope N_name_count P_name_count (defScope s_name_count) := ⟨rfl, rfl, rfl, by decide +kernel, rfl, by decide +kernel, by decide +kernel⟩
def g_name_count (sp_inner sp_name_count : DSp) : GS :=
  (gSeq (gIf (fTest (fOp (rEqD false) (fVar 0) (fTup (fCons (fC (.str "name")) (fCons (fVar 1) fNil))))) (gRet (fC (.int 1))) gNext) (gRet (fCB rSumD (fCons (fLc (fiList (fFrz (fCall sp_inner (fCons (fVar 0) fNil)))) (.nm 2) fYes (fCall sp_name_count (fCons (fVar 2) (fCons (fVar 1) fNil))) [2]) fNil))))
theorem der_name_count {P : Program} {w : World} {K : PySem.W.Frag} {mg : Str → Option Value} {base : Heap} {k : Nat} {f : Addr} {sp_inner sp_name_count : DSp} {a_inner : Addr} {fd_inner : FuncData} (n_inner : Fn K mg "inner" s_inner P_inner a_inner fd_inner) (G_inner : FnOk P w K mg base CX0 k a_inner fd_inner P_inner (liftSp K sp_inner)) {a_name_count : Addr} {fd_name_count : FuncData} (n_name_count : Fn K mg "name_count" s_name_count P_name_count a_name_count fd_name_count) (G_name_count : FnOk P w K mg base CX0 k a_name_count fd_name_count P_name_count (liftSp K sp_name_count)) (m_sum : mg "sum" = none)
    (cdv : Value) (A : Around) (outer : List Env) (s : Shared) (H : Hp) (E : XK) (hr : Room k (A.deeper (envOfC "name_count" (defScope s_name_count) s.heap.objs.size f cdv))) :
    DSs MT (cxOf CX0 P w K mg base N_name_count "name_count" (defScope s_name_count) f cdv A outer s H E).nox (defBody s_name_count) (g_name_count sp_inner sp_name_count) :=
  (dss_cons (ds_if (dt_cmp (od_eq hr.u200) (de_var 0) (de_tup (da_cons de_str (da_cons (de_var 1) da_nil))) (nomark _)) (dss_one (ds_ret de_int)) dss_nil) (dss_one (ds_ret (de_callB (cd_sum (by rfl)) (by rfl) m_sum bb_sum (da_cons (de_lc (by rfl) sc_name_count.nd (di_list (de_frz (de_callN n_inner G_inner hr (by rfl) (da_cons (de_var 0) da_nil)))) (blkOk_by (own := [("one", 2)]) (N := N_name_count) (sc := defScope s_name_count) (by decide +kernel)) (fun _ _ _ _ _ => (dp_name (i := 2) sc_name_count.nd (by rfl) (by first | exact Or.inl rfl | exact Or.inr rfl))) (fun _ _ _ _ _ => dts_nil) (fun _ _ _ _ _ => (de_callN n_name_count G_name_count hr (by rfl) (da_cons (de_var 2) (da_cons (de_var 1) da_nil))))) da_nil)))))
/-! ### with_given -/
abbrev s_with_given : Stmt := topS 30
abbrev N_with_given : List Str := ["part", "name", "given", "one"]
abbrev P_with_given : List Str := ["part", "name", "given"]
theorem sc_with_given : FnScope N_with_given P_with_given (defScope s_with_given) := ⟨rfl, rfl, rfl, by decide +kernel, rfl, by decide +kernel, by decide +kernel⟩
def g_with_given (sp_with_inner sp_inner sp_with_given : DSp) : GS :=
  (gSeq (gIf (fTest (fOp (rEqD false) (fVar 0) (fTup (fCons (fC (.str "name")) (fCons (fVar 1) fNil))))) (gRet (fVar 2)) gNext) (gRet (fCall sp_with_inner (fCons (fVar 0) (fCons (fLc (fiList (fFrz (fCall sp_inner (fCons (fVar 0) fNil)))) (.nm 3) fYes (fCall sp_with_given (fCons (fVar 3) (fCons (fVar 1) (fCons (fVar 2) fNil)))) [3]) fNil)))))
theorem der_with_given {P : Program} {w : World} {K : PySem.W.Frag} {mg : Str → Option Value} {base : Heap} {k : Nat} {f : Addr} {sp_with_inner sp_inner sp_with_given : DSp} {a_with_inner : Addr} {fd_with_inner : FuncData} (n_with_inner : Fn K mg "with_inner" s_with_inner P_with_inner a_with_inner fd_with_inner) (G_with_inner : FnOk P w K mg base CX0 k a_with_inner fd_with_inner P_with_inner (liftSp K sp_with_inner)) {a_inner : Addr} {fd_inner : FuncData} (n_inner : Fn K mg "inner" s_inner P_inner a_inner fd_inner) (G_inner : FnOk P w K mg base CX0 k a_inner fd_inner P_inner (liftSp K sp_inner)) {a_with_given : Addr} {fd_with_given : FuncData} (n_with_given : Fn K mg "with_given" s_with_given P_with_given a_with_given fd_with_given) (G_with_given : FnOk P w K mg base CX0 k a_with_given fd_with_given P_with_given (liftSp K sp_with_given))
    (cdv : Value) (A : Around) (outer : List Env) (s : Shared) (H : Hp) (E : XK) (hr : Room k (A.deeper (envOfC "with_given" (defScope s_with_given) s.heap.objs.size f cdv))) :
    DSs MT (cxOf CX0 P w K mg base N_with_given "with_given" (defScope s_with_given) f cdv A outer s H E).nox (defBody s_with_given) (g_with_given sp_with_inner sp_inner sp_with_given) :=
  (dss_cons (ds_if (dt_cmp (od_eq hr.u200) (de_var 0) (de_tup (da_cons de_str (da_cons (de_var 1) da_nil))) (nomark _)) (dss_one (ds_ret (de_var 2))) dss_nil) (dss_one (ds_ret (de_callN n_with_inner G_with_inner hr (by rfl) (da_cons (de_var 0) (da_cons (de_lc (by rfl) sc_with_given.nd (di_list (de_frz (de_callN n_inner G_inner hr (by rfl) (da_cons (de_var 0) da_nil)))) (blkOk_by (own := [("one", 3)]) (N := N_with_given) (sc := defScope s_with_given) (by decide +kernel)) (fun _ _ _ _ _ => (dp_name (i := 3) sc_with_given.nd (by rfl) (by first | exact Or.inl rfl | exact Or.inr rfl))) (fun _ _ _ _ _ => dts_nil) (fun _ _ _ _ _ => (de_callN n_with_given G_with_given hr (by rfl) (da_cons (de_var 3) (da_cons (de_var 1) (da_cons (de_var 2) da_nil)))))) da_nil))))))
/-! ### what_comes -/
abbrev s_what_comes : Stmt := topS 31
abbrev N_what_comes : List Str := ["part", "word", "name", "kind", "body"]
abbrev P_what_comes : List Str := ["part"]
theorem sc_what_comes : FnScope N_what_comes P_what_comes (defScope s_what_comes) := ⟨rfl, rfl, rfl, by decide +kernel, rfl, by decide +kernel, by decide +kernel⟩
def g_what_comes (sp_with_given : DSp) : GS :=
  (gSeq (gIf (fTest (fOp (rEqD false) (fOp rIxD (fVar 0) (fC (.int 0))) (fC (.str "give")))) (gSeq (gAsg (fOp rIxD (fVar 0) (fC (.int 1))) (.tp [(.nm 1), (.nm 2), (.nm 3), (.nm 4)])) (gRet (fCall sp_with_given (fCons (fVar 4) (fCons (fVar 2) (fCons (fOp rIxD (fVar 0) (fC (.int 2))) fNil)))))) gNext) (gRet (fOp rIxD (fOp rIxD (fVar 0) (fC (.int 1))) (fOp rAddD (fC (.int 1)) (fCB rInt1 (fCons (fOp (rEqD false) (fOp rIxD (fVar 0) (fC (.int 0))) (fC (.str "second"))) fNil))))))
theorem der_what_comes {P : Program} {w : World} {K : PySem.W.Frag} {mg : Str → Option Value} {base : Heap} {k : Nat} {f : Addr} {sp_with_given : DSp} {a_with_given : Addr} {fd_with_given : FuncData} (n_with_given : Fn K mg "with_given" s_with_given P_with_given a_with_given fd_with_given) (G_with_given : FnOk P w K mg base CX0 k a_with_given fd_with_given P_with_given (liftSp K sp_with_given)) (m_int : mg "int" = none)
    (cdv : Value) (A : Around) (outer : List Env) (s : Shared) (H : Hp) (E : XK) (hr : Room k (A.deeper (envOfC "what_comes" (defScope s_what_comes) s.heap.objs.size f cdv))) :
    DSs MT (cxOf CX0 P w K mg base N_what_comes "what_comes" (defScope s_what_comes) f cdv A outer s H E).nox (defBody s_what_comes) (g_what_comes sp_with_given) :=
  (dss_cons (ds_if (dt_cmp (od_eq hr.u200) (de_ix (de_var 0) de_int) de_str (nomark _)) (dss_cons (ds_asg (de_ix (de_var 0) de_int) (dp_tup (by rfl) (dps_cons (dp_name (i := 1) sc_what_comes.nd (by rfl) (by first | exact Or.inl rfl | exact Or.inr rfl)) (dps_cons (dp_name (i := 2) sc_what_comes.nd (by rfl) (by first | exact Or.inl rfl | exact Or.inr rfl)) (dps_cons (dp_name (i := 3) sc_what_comes.nd (by rfl) (by first | exact Or.inl rfl | exact Or.inr rfl)) (dps_cons (dp_name (i := 4) sc_what_comes.nd (by rfl) (by first | exact Or.inl rfl | exact Or.inr rfl)) dps_nil)))))) (dss_one (ds_ret (de_callN n_with_given G_with_given hr (by rfl) (da_cons (de_var 4) (da_cons (de_var 2) (da_cons (de_ix (de_var 0) de_int) da_nil))))))) dss_nil) (dss_one (ds_ret (de_ix (de_ix (de_var 0) de_int) (de_op od_add de_int (de_callTy cd_int1 (by rfl) m_int bb_int (da_cons (de_cmp (od_eq hr.u200) (de_ix (de_var 0) de_int) de_str (nomark _)) da_nil)))))))
/-! ### parts_that_come -/
abbrev s_parts_that_come : Stmt := topS 32
abbrev N_parts_that_come : List Str := ["program", "part", "rest", "word", "name", "kind", "body"]
abbrev P_parts_that_come : List Str := ["program", "part"]
theorem sc_parts_that_come : FnScope N_parts_that_come P_parts_that_come (defScope s_parts_that_come) := ⟨rfl, rfl, rfl, by decide +kernel, rfl, by decide +kernel, by decide +kernel⟩
def g_parts_that_come (sp_parts_of sp_what_comes sp_name_count : DSp) : GS :=
  (gSeq (gSet (fOp rSubD (fCall sp_parts_of (fCons (fVar 0) fNil)) (fCall sp_parts_of (fCons (fVar 1) fNil))) 2) (gSeq (gIf (fTest (fOp (rEqD true) (fOp rIxD (fVar 1) (fC (.int 0))) (fC (.str "give")))) (gRet (fOp rAddD (fVar 2) (fCall sp_parts_of (fCons (fCall sp_what_comes (fCons (fVar 1) fNil)) fNil)))) gNext) (gSeq (gAsg (fOp rIxD (fVar 1) (fC (.int 1))) (.tp [(.nm 3), (.nm 4), (.nm 5), (.nm 6)])) (gRet (fOp rAddD (fOp rAddD (fVar 2) (fCall sp_parts_of (fCons (fVar 6) fNil))) (fOp rMulD (fCall sp_name_count (fCons (fVar 6) (fCons (fVar 4) fNil))) (fOp rSubD (fCall sp_parts_of (fCons (fOp rIxD (fVar 1) (fC (.int 2))) fNil)) (fC (.int 1)))))))))
theorem der_parts_that_come {P : Program} {w : World} {K : PySem.W.Frag} {mg : Str → Option Value} {base : Heap} {k : Nat} {f : Addr} {sp_parts_of sp_what_comes sp_name_count : DSp} {a_parts_of : Addr} {fd_parts_of : FuncData} (n_parts_of : Fn K mg "parts_of" s_parts_of P_parts_of a_parts_of fd_parts_of) (G_parts_of : FnOk P w K mg base CX0 k a_parts_of fd_parts_of P_parts_of (liftSp K sp_parts_of)) {a_what_comes : Addr} {fd_what_comes : FuncData} (n_what_comes : Fn K mg "what_comes" s_what_comes P_what_comes a_what_comes fd_what_comes) (G_what_comes : FnOk P w K mg base CX0 k a_what_comes fd_what_comes P_what_comes (liftSp K sp_what_comes)) {a_name_count : Addr} {fd_name_count : FuncData} (n_name_count : Fn K mg "name_count" s_name_count P_name_count a_name_count fd_name_count) (G_name_count : FnOk P w K mg base CX0 k a_name_count fd_name_count P_name_count (liftSp K sp_name_count))
    (cdv : Value) (A : Around) (outer : List Env) (s : Shared) (H : Hp) (E : XK) (hr : Room k (A.deeper (envOfC "parts_that_come" (defScope s_parts_that_come) s.heap.objs.size f cdv))) :
    DSs MT (cxOf CX0 P w K mg base N_parts_that_come "parts_that_come" (defScope s_parts_that_come) f cdv A outer s H E).nox (defBody s_parts_that_come) (g_parts_that_come sp_parts_of sp_what_comes sp_name_count) :=
  (dss_cons (ds_set (i := 2) sc_parts_that_come.nd rfl (by first | exact Or.inl rfl | exact Or.inr rfl) (de_op od_sub (de_callN n_parts_of G_parts_of hr (by rfl) (da_cons (de_var 0) da_nil)) (de_callN n_parts_of G_parts_of hr (by rfl) (da_cons (de_var 1) da_nil)))) (dss_cons (ds_if (dt_cmp (od_ne hr.u200) (de_ix (de_var 1) de_int) de_str (nomark _)) (dss_one (ds_ret (de_op od_add (de_var 2) (de_callN n_parts_of G_parts_of hr (by rfl) (da_cons (de_callN n_what_comes G_what_comes hr (by rfl) (da_cons (de_var 1) da_nil)) da_nil))))) dss_nil) (dss_cons (ds_asg (de_ix (de_var 1) de_int) (dp_tup (by rfl) (dps_cons (dp_name (i := 3) sc_parts_that_come.nd (by rfl) (by first | exact Or.inl rfl | exact Or.inr rfl)) (dps_cons (dp_name (i := 4) sc_parts_that_come.nd (by rfl) (by first | exact Or.inl rfl | exact Or.inr rfl)) (dps_cons (dp_name (i := 5) sc_parts_that_come.nd (by rfl) (by first | exact Or.inl rfl | exact Or.inr rfl)) (dps_cons (dp_name (i := 6) sc_parts_that_come.nd (by rfl) (by first | exact Or.inl rfl | exact Or.inr rfl)) dps_nil)))))) (dss_one (ds_ret (de_op od_add (de_op od_add (de_var 2) (de_callN n_parts_of G_parts_of hr (by rfl) (da_cons (de_var 6) da_nil))) (de_op od_mul (de_callN n_name_count G_name_count hr (by rfl) (da_cons (de_var 6) (da_cons (de_var 4) da_nil))) (de_op od_sub (de_callN n_parts_of G_parts_of hr (by rfl) (da_cons (de_ix (de_var 1) de_int) da_nil)) de_int))))))))
/-! ### done_at -/
abbrev s_done_at : Stmt := topS 33
abbrev N_done_at : List Str := ["program", "place"]
abbrev P_done_at : List Str := ["program", "place"]
theorem sc_done_at : FnScope N_done_at P_done_at (defScope s_done_at) := ⟨rfl, rfl, rfl, by decide +kernel, rfl, by decide +kernel, by decide +kernel⟩
def g_done_at (sp_tidied sp_with_part sp_what_comes sp_part_at : DSp) : GS :=
  (gRet (fCall sp_tidied (fCons (fCall sp_with_part (fCons (fVar 0) (fCons (fVar 1) (fCons (fCall sp_what_comes (fCons (fCall sp_part_at (fCons (fVar 0) (fCons (fVar 1) fNil))) fNil)) fNil)))) fNil)))
theorem der_done_at {P : Program} {w : World} {K : PySem.W.Frag} {mg : Str → Option Value} {base : Heap} {k : Nat} {f : Addr} {sp_tidied sp_with_part sp_what_comes sp_part_at : DSp} {a_tidied : Addr} {fd_tidied : FuncData} (n_tidied : Fn K mg "tidied" s_tidied P_tidied a_tidied fd_tidied) (G_tidied : FnOk P w K mg base CX0 k a_tidied fd_tidied P_tidied (liftSp K sp_tidied)) {a_with_part : Addr} {fd_with_part : FuncData} (n_with_part : Fn K mg "with_part" s_with_part P_with_part a_with_part fd_with_part) (G_with_part : FnOk P w K mg base CX0 k a_with_part fd_with_part P_with_part (liftSp K sp_with_part)) {a_what_comes : Addr} {fd_what_comes : FuncData} (n_what_comes : Fn K mg "what_comes" s_what_comes P_what_comes a_what_comes fd_what_comes) (G_what_comes : FnOk P w K mg base CX0 k a_what_comes fd_what_comes P_what_comes (liftSp K sp_what_comes)) {a_part_at : Addr} {fd_part_at : FuncData} (n_part_at : Fn K mg "part_at" s_part_at P_part_at a_part_at fd_part_at) (G_part_at : FnOk P w K mg base CX0 k a_part_at fd_part_at P_part_at (liftSp K sp_part_at))
    (cdv : Value) (A : Around) (outer : List Env) (s : Shared) (H : Hp) (E : XK) (hr : Room k (A.deeper (envOfC "done_at" (defScope s_done_at) s.heap.objs.size f cdv))) :
    DSs MT (cxOf CX0 P w K mg base N_done_at "done_at" (defScope s_done_at) f cdv A outer s H E).nox (defBody s_done_at) (g_done_at sp_tidied sp_with_part sp_what_comes sp_part_at) :=
  (dss_one (ds_ret (de_callN n_tidied G_tidied hr (by rfl) (da_cons (de_callN n_with_part G_with_part hr (by rfl) (da_cons (de_var 0) (da_cons (de_var 1) (da_cons (de_callN n_what_comes G_what_comes hr (by rfl) (da_cons (de_callN n_part_at G_part_at hr (by rfl) (da_cons (de_var 0) (da_cons (de_var 1) da_nil))) da_nil)) da_nil)))) da_nil))))
/-! ### next_place -/
abbrev s_next_place : Stmt := topS 34
abbrev N_next_place : List Str := ["places", "picks", "number"]
abbrev P_next_place : List Str := ["places", "picks", "number"]
theorem sc_next_place : FnScope N_next_place P_next_place (defScope s_next_place) := ⟨rfl, rfl, rfl, by decide +kernel, rfl, by decide +kernel, by decide +kernel⟩
def g_next_place : GS :=
  (gSeq (gIf (fOr (fTest (fOp (rIsN false) (fVar 1) (fC .non))) (fTest (fOp (rEqD false) (fVar 1) (fLst fNil)))) (gRet (fOp rIxD (fVar 0) (fC (.int 0)))) gNext) (gRet (fOp rIxD (fVar 0) (fOp rModD (fOp rIxD (fVar 1) (fOp rModD (fVar 2) (fCB rLenD (fCons (fVar 1) fNil)))) (fCB rLenD (fCons (fVar 0) fNil))))))
theorem der_next_place {P : Program} {w : World} {K : PySem.W.Frag} {mg : Str → Option Value} {base : Heap} {k : Nat} {f : Addr} (m_len : mg "len" = none)
    (cdv : Value) (A : Around) (outer : List Env) (s : Shared) (H : Hp) (E : XK) (hr : Room k (A.deeper (envOfC "next_place" (defScope s_next_place) s.heap.objs.size f cdv))) :
    DSs MT (cxOf CX0 P w K mg base N_next_place "next_place" (defScope s_next_place) f cdv A outer s H E).nox (defBody s_next_place) (g_next_place) :=
  (dss_cons (ds_if (dt_of (dw_or (dt_cmp od_is (de_var 1) de_non (nomark _)) (dw_or1 (dt_cmp (od_eq hr.u200) (de_var 1) (de_lst da_nil) (nomark _))))) (dss_one (ds_ret (de_ix (de_var 0) de_int))) dss_nil) (dss_one (ds_ret (de_ix (de_var 0) (de_op od_mod (de_ix (de_var 1) (de_op od_mod (de_var 2) (de_callB cd_len (by rfl) m_len bb_len (da_cons (de_var 1) da_nil)))) (de_callB cd_len (by rfl) m_len bb_len (da_cons (de_var 0) da_nil)))))))
/-! ### run -/
abbrev s_run : Stmt := topS 35
abbrev N_run : List Str := ["program", "picks", "log", "places", "place"]
abbrev P_run : List Str := ["program", "picks"]
theorem sc_run : FnScope N_run P_run (defScope s_run) := ⟨rfl, rfl, rfl, by decide +kernel, rfl, by decide +kernel, by decide +kernel⟩
def g_run (sp_tidied sp_step_places sp_next_place sp_parts_that_come sp_part_at sp_done_at sp_deep_of : DSp) (d_MOST_STEPS d_MOST_PARTS d_MOST_DEEP : D) (C_TooLong : Addr) (RX : XW) : GS :=
  (gSeq (gSet (fCall sp_tidied (fCons (fVar 0) fNil)) 0) (gSeq (gSet (fLstO fNil) 2) (gSeq (gSet (fCall sp_step_places (fCons (fVar 0) fNil)) 3) (gSeq (gWhile (fTest (fOp (rEqD true) (fVar 3) (fLst fNil))) (gSeq (gSet (fCall sp_next_place (fCons (fVar 3) (fCons (fVar 1) (fCons (fCB rLenD (fCons (fVar 2) fNil)) fNil)))) 4) (gSeq (gIf (fOr (fTest (fOp (rEqD false) (fCB rLenD (fCons (fVar 2) fNil)) (fC d_MOST_STEPS))) (fTest (fOp rGtD (fCall sp_parts_that_come (fCons (fVar 0) (fCons (fCall sp_part_at (fCons (fVar 0) (fCons (fVar 4) fNil))) fNil))) (fC d_MOST_PARTS)))) (gRaise RX (.ref C_TooLong)) gNext) (gSeq (gSet (fCall sp_done_at (fCons (fVar 0) (fCons (fVar 4) fNil))) 0) (gSeq (gIf (fTest (fOp rGtD (fCall sp_deep_of (fCons (fVar 0) fNil)) (fC d_MOST_DEEP))) (gRaise RX (.ref C_TooLong)) gNext) (gSeq (gDrop (fBM "list" rAppendD (fVar 2) (fCons (fVar 4) fNil))) (gSet (fCall sp_step_places (fCons (fVar 0) fNil)) 3))))))) (gFrz 2 (gRet (fTup (fCons (fVar 0) (fCons (fVar 2) fNil)))))))))
theorem der_run {P : Program} {w : World} {K : PySem.W.Frag} {mg : Str → Option Value} {base : Heap} {k : Nat} {f : Addr} {sp_tidied sp_step_places sp_next_place sp_parts_that_come sp_part_at sp_done_at sp_deep_of : DSp} {d_MOST_STEPS d_MOST_PARTS d_MOST_DEEP : D} {C_TooLong : Addr} {a_tidied : Addr} {fd_tidied : FuncData} (n_tidied : Fn K mg "tidied" s_tidied P_tidied a_tidied fd_tidied) (G_tidied : FnOk P w K mg base CX0 k a_tidied fd_tidied P_tidied (liftSp K sp_tidied)) {a_step_places : Addr} {fd_step_places : FuncData} (n_step_places : Fn K mg "step_places" s_step_places P_step_places a_step_places fd_step_places) (G_step_places : FnOk P w K mg base CX0 k a_step_places fd_step_places P_step_places (liftSp K sp_step_places)) {a_next_place : Addr} {fd_next_place : FuncData} (n_next_place : Fn K mg "next_place" s_next_place P_next_place a_next_place fd_next_place) (G_next_place : FnOk P w K mg base CX0 k a_next_place fd_next_place P_next_place (liftSp K sp_next_place)) {a_parts_that_come : Addr} {fd_parts_that_come : FuncData} (n_parts_that_come : Fn K mg "parts_that_come" s_parts_that_come P_parts_that_come a_parts_that_come fd_parts_that_come) (G_parts_that_come : FnOk P w K mg base CX0 k a_parts_that_come fd_parts_that_come P_parts_that_come (liftSp K sp_parts_that_come)) {a_part_at : Addr} {fd_part_at : FuncData} (n_part_at : Fn K mg "part_at" s_part_at P_part_at a_part_at fd_part_at) (G_part_at : FnOk P w K mg base CX0 k a_part_at fd_part_at P_part_at (liftSp K sp_part_at)) {a_done_at : Addr} {fd_done_at : FuncData} (n_done_at : Fn K mg "done_at" s_done_at P_done_at a_done_at fd_done_at) (G_done_at : FnOk P w K mg base CX0 k a_done_at fd_done_at P_done_at (liftSp K sp_done_at)) {a_deep_of : Addr} {fd_deep_of : FuncData} (n_deep_of : Fn K mg "deep_of" s_deep_of P_deep_of a_deep_of fd_deep_of) (G_deep_of : FnOk P w K mg base CX0 k a_deep_of fd_deep_of P_deep_of (liftSp K sp_deep_of)) (m_len : mg "len" = none) (c_MOST_STEPS : Cst K mg "MOST_STEPS" d_MOST_STEPS) (c_MOST_PARTS : Cst K mg "MOST_PARTS" d_MOST_PARTS) (c_MOST_DEEP : Cst K mg "MOST_DEEP" d_MOST_DEEP) (x_TooLong : ExN K mg "TooLong" C_TooLong)
    (RX : XW) (W : WX) (cdv : Value) (A : Around) (outer : List Env) (s : Shared) (H : Hp) (E : XK) (tk : Takes (cxOf (L2.CX P w) P w K mg base N_run "run" (defScope s_run) f cdv A outer s H E) W) (hp : PassesOwn (model (cxOf (L2.CX P w) P w K mg base N_run "run" (defScope s_run) f cdv A outer s H E).prog (cxOf (L2.CX P w) P w K mg base N_run "run" (defScope s_run) f cdv A outer s H E).w) (cxOf (L2.CX P w) P w K mg base N_run "run" (defScope s_run) f cdv A outer s H E).A (cxOf (L2.CX P w) P w K mg base N_run "run" (defScope s_run) f cdv A outer s H E).env (cxOf (L2.CX P w) P w K mg base N_run "run" (defScope s_run) f cdv A outer s H E).xe) (hr : Room k (A.deeper (envOfC "run" (defScope s_run) s.heap.objs.size f cdv))) :
    DSs (mxw K RX W) (cxOf (L2.CX P w) P w K mg base N_run "run" (defScope s_run) f cdv A outer s H E) (defBody s_run) (g_run sp_tidied sp_step_places sp_next_place sp_parts_that_come sp_part_at sp_done_at sp_deep_of d_MOST_STEPS d_MOST_PARTS d_MOST_DEEP C_TooLong RX) :=
  (dss_cons (ds_set (i := 0) sc_run.nd rfl (by first | exact Or.inl rfl | exact Or.inr rfl) (de_callN n_tidied G_tidied hr (by rfl) (da_cons (de_var 0) da_nil))) (dss_cons (ds_set (i := 2) sc_run.nd rfl (by first | exact Or.inl rfl | exact Or.inr rfl) (de_lstO da_nil)) (dss_cons (ds_set (i := 3) sc_run.nd rfl (by first | exact Or.inl rfl | exact Or.inr rfl) (de_callN n_step_places G_step_places hr (by rfl) (da_cons (de_var 0) da_nil))) (dss_cons (ds_while hp (dt_cmp (od_ne hr.u200) (de_var 3) (de_lst da_nil) (nomark _)) (dss_cons (ds_set (i := 4) sc_run.nd rfl (by first | exact Or.inl rfl | exact Or.inr rfl) (de_callN n_next_place G_next_place hr (by rfl) (da_cons (de_var 3) (da_cons (de_var 1) (da_cons (de_callB cd_len (by rfl) m_len bb_len (da_cons (de_var 2) da_nil)) da_nil))))) (dss_cons (ds_if (dt_of (dw_or (dt_cmp (od_eq hr.u200) (de_callB cd_len (by rfl) m_len bb_len (da_cons (de_var 2) da_nil)) (de_cst c_MOST_STEPS (by rfl)) (nomark _)) (dw_or1 (dt_cmp od_gt (de_callN n_parts_that_come G_parts_that_come hr (by rfl) (da_cons (de_var 0) (da_cons (de_callN n_part_at G_part_at hr (by rfl) (da_cons (de_var 0) (da_cons (de_var 4) da_nil))) da_nil))) (de_cst c_MOST_PARTS (by rfl)) (nomark _))))) (dss_one (ds_raise x_TooLong (by rfl) tk (by rfl))) dss_nil) (dss_cons (ds_set (i := 0) sc_run.nd rfl (by first | exact Or.inl rfl | exact Or.inr rfl) (de_callN n_done_at G_done_at hr (by rfl) (da_cons (de_var 0) (da_cons (de_var 4) da_nil)))) (dss_cons (ds_if (dt_cmp od_gt (de_callN n_deep_of G_deep_of hr (by rfl) (da_cons (de_var 0) da_nil)) (de_cst c_MOST_DEEP (by rfl)) (nomark _)) (dss_one (ds_raise x_TooLong (by rfl) tk (by rfl))) dss_nil) (dss_cons (ds_expr (de_bm PySem.F.plainAttrs_list PySem.F.slot_list_append PySem.F.type_list_append md_append (de_var 2) (da_cons (de_var 4) da_nil))) (dss_one (ds_set (i := 3) sc_run.nd rfl (by first | exact Or.inl rfl | exact Or.inr rfl) (de_callN n_step_places G_step_places hr (by rfl) (da_cons (de_var 0) da_nil)))))))))) (dss_frz 2 (dss_one (ds_ret (de_tup (da_cons (de_var 0) (da_cons (de_var 2) da_nil))))))))))
/-! ### _law_pool -/
abbrev s__law_pool : Stmt := topS 37
abbrev N__law_pool : List Str := ["_law_script", "_law_k", "_law_cell", "_law_number"]
abbrev P__law_pool : List Str := ["_law_script", "_law_k"]
theorem sc__law_pool : FnScope N__law_pool P__law_pool (defScope s__law_pool) := ⟨rfl, rfl, rfl, by decide +kernel, rfl, by decide +kernel, by decide +kernel⟩
def g__law_pool : GS :=
  (gSeq (gSet (fC (.int 0)) 2) (gSeq (gIf (fTest (fOp rLtD (fVar 1) (fCB rLenD (fCons (fVar 0) fNil)))) (gSet (fOp rIxD (fVar 0) (fVar 1)) 2) gNext) (gSeq (gSet (fOp rModD (fOp rPowD (fOp rAddD (fOp rAddD (fOp rModD (fVar 2) (fC (.int 2147483629))) (fOp rMulD (fOp rMulD (fC (.int 104729)) (fVar 1)) (fVar 1))) (fC (.int 11))) (fC (.int 3))) (fC (.int 2147483647))) 3) (gSeq (gIf (fTest (fOp rLtD (fVar 2) (fOp rPowD (fC (.int 10)) (fC (.int 18))))) (gSet (fC (.int 0)) 2) gNext) (gRet (fPool (fCons (fVar 2) (fCons (fVar 3) fNil))))))))
theorem der__law_pool {P : Program} {w : World} {K : PySem.W.Frag} {mg : Str → Option Value} {base : Heap} {k : Nat} {f : Addr} (m_len : mg "len" = none)
    (cdv : Value) (A : Around) (outer : List Env) (s : Shared) (H : Hp) (E : XK) (hr : Room k (A.deeper (envOfC "_law_pool" (defScope s__law_pool) s.heap.objs.size f cdv))) :
    DSs MT (cxOf CX0 P w K mg base N__law_pool "_law_pool" (defScope s__law_pool) f cdv A outer s H E).nox (defBody s__law_pool) (g__law_pool) :=
  (dss_cons (ds_set (i := 2) sc__law_pool.nd rfl (by first | exact Or.inl rfl | exact Or.inr rfl) de_int) (dss_cons (ds_if (dt_cmp od_lt (de_var 1) (de_callB cd_len (by rfl) m_len bb_len (da_cons (de_var 0) da_nil)) (nomark _)) (dss_one (ds_set (i := 2) sc__law_pool.nd rfl (by first | exact Or.inl rfl | exact Or.inr rfl) (de_ix (de_var 0) (de_var 1)))) dss_nil) (dss_cons (ds_set (i := 3) sc__law_pool.nd rfl (by first | exact Or.inl rfl | exact Or.inr rfl) (de_op od_mod (de_op od_pow (de_op od_add (de_op od_add (de_op od_mod (de_var 2) de_int) (de_op od_mul (de_op od_mul de_int (de_var 1)) (de_var 1))) de_int) de_int) de_int)) (dss_cons (ds_if (dt_cmp od_lt (de_var 2) (de_op od_pow de_int de_int) (nomark _)) (dss_one (ds_set (i := 2) sc__law_pool.nd rfl (by first | exact Or.inl rfl | exact Or.inr rfl) de_int)) dss_nil) (dss_one (ds_ret (de_pool (da_cons (de_var 2) (da_cons (de_var 3) da_nil)))))))))
/-! ### _law_take -/
abbrev s__law_take : Stmt := topS 38
abbrev N__law_take : List Str := ["_law_pool_here", "_law_many", "_law_found"]
abbrev P__law_take : List Str := ["_law_pool_here", "_law_many"]
theorem sc__law_take : FnScope N__law_take P__law_take (defScope s__law_take) := ⟨rfl, rfl, rfl, by decide +kernel, rfl, by decide +kernel, by decide +kernel⟩
def g__law_take : GS :=
  (gSeq (gIf (fTest (fOp rGtD (fOp rIxD (fVar 0) (fC (.int 0))) (fC (.int 0)))) (gSeq (gSet (fOp rModD (fOp rIxD (fVar 0) (fC (.int 0))) (fVar 1)) 2) (gSeq (gSetIx (fVar 0) (fC (.int 0)) (fOp rDivD (fOp rIxD (fVar 0) (fC (.int 0))) (fVar 1))) (gRet (fVar 2)))) gNext) (gSeq (gSetIx (fVar 0) (fC (.int 1)) (fOp rModD (fOp rAddD (fOp rMulD (fOp rIxD (fVar 0) (fC (.int 1))) (fC (.int 48271))) (fC (.int 11))) (fC (.int 2147483647)))) (gRet (fOp rModD (fOp rDivD (fOp rModD (fOp rMulD (fOp rIxD (fVar 0) (fC (.int 1))) (fOp rIxD (fVar 0) (fC (.int 1)))) (fC (.int 2147483629))) (fC (.int 64))) (fVar 1)))))
theorem der__law_take {P : Program} {w : World} {K : PySem.W.Frag} {mg : Str → Option Value} {base : Heap} {k : Nat} {f : Addr} 
    (cdv : Value) (A : Around) (outer : List Env) (s : Shared) (H : Hp) (E : XK) (hr : Room k (A.deeper (envOfC "_law_take" (defScope s__law_take) s.heap.objs.size f cdv))) :
    DSs MT (cxOf CX0 P w K mg base N__law_take "_law_take" (defScope s__law_take) f cdv A outer s H E).nox (defBody s__law_take) (g__law_take) :=
  (dss_cons (ds_if (dt_cmp od_gt (de_ix (de_var 0) de_int) de_int (nomark _)) (dss_cons (ds_set (i := 2) sc__law_take.nd rfl (by first | exact Or.inl rfl | exact Or.inr rfl) (de_op od_mod (de_ix (de_var 0) de_int) (de_var 1))) (dss_cons (ds_setIx (de_var 0) de_int (de_op od_div (de_ix (de_var 0) de_int) (de_var 1))) (dss_one (ds_ret (de_var 2))))) dss_nil) (dss_cons (ds_setIx (de_var 0) de_int (de_op od_mod (de_op od_add (de_op od_mul (de_ix (de_var 0) de_int) de_int) de_int) de_int)) (dss_one (ds_ret (de_op od_mod (de_op od_div (de_op od_mod (de_op od_mul (de_ix (de_var 0) de_int) (de_ix (de_var 0) de_int)) de_int) de_int) (de_var 1))))))
/-! ### _law_inner -/
abbrev s__law_inner : Stmt := topS 39
abbrev N__law_inner : List Str := ["_law_program"]
abbrev P__law_inner : List Str := ["_law_program"]
theorem sc__law_inner : FnScope N__law_inner P__law_inner (defScope s__law_inner) := ⟨rfl, rfl, rfl, by decide +kernel, rfl, by decide +kernel, by decide +kernel⟩
def g__law_inner : GS :=
  (gSeq (gIf (fTest (fOp (rEqD false) (fOp rIxD (fVar 0) (fC (.int 0))) (fC (.str "take")))) (gRet (fLst (fCons (fOp rIxD (fVar 0) (fC (.int 3))) fNil))) gNext) (gSeq (gIf (fTest (fOp (rInD false) (fOp rIxD (fVar 0) (fC (.int 0))) (fTup (fCons (fC (.str "give")) (fCons (fC (.str "pair")) (fCons (fC (.str "first")) (fCons (fC (.str "second")) fNil))))))) (gRet (fCB rList1 (fCons (fSl rSlD (fVar 0) (fPart (fC (.int 1))) fNoPart) fNil))) gNext) (gRet (fLst fNil))))
theorem der__law_inner {P : Program} {w : World} {K : PySem.W.Frag} {mg : Str → Option Value} {base : Heap} {k : Nat} {f : Addr} (m_list : mg "list" = none)
    (cdv : Value) (A : Around) (outer : List Env) (s : Shared) (H : Hp) (E : XK) (hr : Room k (A.deeper (envOfC "_law_inner" (defScope s__law_inner) s.heap.objs.size f cdv))) :
    DSs MT (cxOf CX0 P w K mg base N__law_inner "_law_inner" (defScope s__law_inner) f cdv A outer s H E).nox (defBody s__law_inner) (g__law_inner) :=
  (dss_cons (ds_if (dt_cmp (od_eq hr.u200) (de_ix (de_var 0) de_int) de_str (nomark _)) (dss_one (ds_ret (de_lst (da_cons (de_ix (de_var 0) de_int) da_nil)))) dss_nil) (dss_cons (ds_if (dt_cmp (od_in hr.u200) (de_ix (de_var 0) de_int) (de_tup (da_cons de_str (da_cons de_str (da_cons de_str (da_cons de_str da_nil))))) (by rfl)) (dss_one (ds_ret (de_callTy cd_list1 (by rfl) m_list bb_list (da_cons (de_slice (de_var 0) (do_some de_int) do_none) da_nil)))) dss_nil) (dss_one (ds_ret (de_lst da_nil)))))
/-! ### _law_can -/
abbrev s__law_can : Stmt := topS 40
abbrev N__law_can : List Str := ["_law_part"]
abbrev P__law_can : List Str := ["_law_part"]
theorem sc__law_can : FnScope N__law_can P__law_can (defScope s__law_can) := ⟨rfl, rfl, rfl, by decide +kernel, rfl, by decide +kernel, by decide +kernel⟩
def g__law_can : GS :=
  (gSeq (gIf (fTest (fOp (rEqD false) (fOp rIxD (fVar 0) (fC (.int 0))) (fC (.str "give")))) (gRet (fOp (rEqD false) (fOp rIxD (fOp rIxD (fVar 0) (fC (.int 1))) (fC (.int 0))) (fC (.str "take")))) gNext) (gRet (fAndV (fOp (rInD false) (fOp rIxD (fVar 0) (fC (.int 0))) (fTup (fCons (fC (.str "first")) (fCons (fC (.str "second")) fNil)))) (fOp (rEqD false) (fOp rIxD (fOp rIxD (fVar 0) (fC (.int 1))) (fC (.int 0))) (fC (.str "pair"))))))
theorem der__law_can {P : Program} {w : World} {K : PySem.W.Frag} {mg : Str → Option Value} {base : Heap} {k : Nat} {f : Addr} 
    (cdv : Value) (A : Around) (outer : List Env) (s : Shared) (H : Hp) (E : XK) (hr : Room k (A.deeper (envOfC "_law_can" (defScope s__law_can) s.heap.objs.size f cdv))) :
    DSs MT (cxOf CX0 P w K mg base N__law_can "_law_can" (defScope s__law_can) f cdv A outer s H E).nox (defBody s__law_can) (g__law_can) :=
  (dss_cons (ds_if (dt_cmp (od_eq hr.u200) (de_ix (de_var 0) de_int) de_str (nomark _)) (dss_one (ds_ret (de_cmp (od_eq hr.u200) (de_ix (de_ix (de_var 0) de_int) de_int) de_str (nomark _)))) dss_nil) (dss_one (ds_ret (de_and (de_cmp (od_in hr.u200) (de_ix (de_var 0) de_int) (de_tup (da_cons de_str (da_cons de_str da_nil))) (by rfl)) (de_one (de_cmp (od_eq hr.u200) (de_ix (de_ix (de_var 0) de_int) de_int) de_str (nomark _)))))))
/-! ### _law_places -/
abbrev s__law_places : Stmt := topS 41
abbrev N__law_places : List Str := ["_law_part", "_law_place", "_law_found", "_law_k", "_law_one"]
abbrev P__law_places : List Str := ["_law_part", "_law_place"]
theorem sc__law_places : FnScope N__law_places P__law_places (defScope s__law_places) := ⟨rfl, rfl, rfl, by decide +kernel, rfl, by decide +kernel, by decide +kernel⟩
def g__law_places (sp__law_can sp__law_inner sp__law_places : DSp) : GS :=
  (gSeq (gSet (fOp rRepD (fLst (fCons (fVar 1) fNil)) (fCB rInt1 (fCons (fCall sp__law_can (fCons (fVar 0) fNil)) fNil))) 2) (gSeq (gFor (fiEnum (fCons (fCall sp__law_inner (fCons (fVar 0) fNil)) fNil)) (.tp [(.nm 3), (.nm 4)]) (gSet (fOp rAddD (fVar 2) (fCall sp__law_places (fCons (fVar 4) (fCons (fOp rAddD (fVar 1) (fLst (fCons (fVar 3) fNil))) fNil)))) 2)) (gRet (fVar 2))))
theorem der__law_places {P : Program} {w : World} {K : PySem.W.Frag} {mg : Str → Option Value} {base : Heap} {k : Nat} {f : Addr} {sp__law_can sp__law_inner sp__law_places : DSp} {a__law_can : Addr} {fd__law_can : FuncData} (n__law_can : Fn K mg "_law_can" s__law_can P__law_can a__law_can fd__law_can) (G__law_can : FnOk P w K mg base CX0 k a__law_can fd__law_can P__law_can (liftSp K sp__law_can)) {a__law_inner : Addr} {fd__law_inner : FuncData} (n__law_inner : Fn K mg "_law_inner" s__law_inner P__law_inner a__law_inner fd__law_inner) (G__law_inner : FnOk P w K mg base CX0 k a__law_inner fd__law_inner P__law_inner (liftSp K sp__law_inner)) {a__law_places : Addr} {fd__law_places : FuncData} (n__law_places : Fn K mg "_law_places" s__law_places P__law_places a__law_places fd__law_places) (G__law_places : FnOk P w K mg base CX0 k a__law_places fd__law_places P__law_places (liftSp K sp__law_places)) (m_int : mg "int" = none) (m_enumerate : mg "enumerate" = none)
    (cdv : Value) (A : Around) (outer : List Env) (s : Shared) (H : Hp) (E : XK) (hr : Room k (A.deeper (envOfC "_law_places" (defScope s__law_places) s.heap.objs.size f cdv))) :
    DSs MT (cxOf CX0 P w K mg base N__law_places "_law_places" (defScope s__law_places) f cdv A outer s H E).nox (defBody s__law_places) (g__law_places sp__law_can sp__law_inner sp__law_places) :=
  (dss_cons (ds_set (i := 2) sc__law_places.nd rfl (by first | exact Or.inl rfl | exact Or.inr rfl) (de_op od_rep (de_lst (da_cons (de_var 1) da_nil)) (de_callTy cd_int1 (by rfl) m_int bb_int (da_cons (de_callN n__law_can G__law_can hr (by rfl) (da_cons (de_var 0) da_nil)) da_nil)))) (dss_cons (ds_for PassesOwn.never rfl (di_enum (by rfl) m_enumerate (da_cons (de_callN n__law_inner G__law_inner hr (by rfl) (da_cons (de_var 0) da_nil)) da_nil)) (dp_tup (by rfl) (dps_cons (dp_name (i := 3) sc__law_places.nd (by rfl) (by first | exact Or.inl rfl | exact Or.inr rfl)) (dps_cons (dp_name (i := 4) sc__law_places.nd (by rfl) (by first | exact Or.inl rfl | exact Or.inr rfl)) dps_nil))) (dss_one (ds_set (i := 2) sc__law_places.nd rfl (by first | exact Or.inl rfl | exact Or.inr rfl) (de_op od_add (de_var 2) (de_callN n__law_places G__law_places hr (by rfl) (da_cons (de_var 4) (da_cons (de_op od_add (de_var 1) (de_lst (da_cons (de_var 3) da_nil))) da_nil))))))) (dss_one (ds_ret (de_var 2)))))
/-! ### _law_bare -/
abbrev s__law_bare : Stmt := topS 42
abbrev N__law_bare : List Str := ["_law_program", "_law_taken", "_law_one"]
abbrev P__law_bare : List Str := ["_law_program", "_law_taken"]
theorem sc__law_bare : FnScope N__law_bare P__law_bare (defScope s__law_bare) := ⟨rfl, rfl, rfl, by decide +kernel, rfl, by decide +kernel, by decide +kernel⟩
def g__law_bare (sp__law_bare : DSp) : GS :=
  (gSeq (gIf (fTest (fOp (rEqD false) (fOp rIxD (fVar 0) (fC (.int 0))) (fC (.str "name")))) (gSeq (gIf (fTest (fOp (rInD false) (fOp rIxD (fVar 0) (fC (.int 1))) (fVar 1))) (gRet (fTup (fCons (fC (.str "at")) (fCons (fBM "list" rIndexD (fRev (fVar 1) (fPart (fUn rNeg (fC (.int 1))))) (fCons (fOp rIxD (fVar 0) (fC (.int 1))) fNil)) fNil)))) gNext) (gRet (fVar 0))) gNext) (gSeq (gIf (fTest (fOp (rEqD false) (fOp rIxD (fVar 0) (fC (.int 0))) (fC (.str "take")))) (gRet (fTup (fCons (fC (.str "take")) (fCons (fC (.str "")) (fCons (fOp rIxD (fVar 0) (fC (.int 2))) (fCons (fCall sp__law_bare (fCons (fOp rIxD (fVar 0) (fC (.int 3))) (fCons (fOp rAddD (fVar 1) (fLst (fCons (fOp rIxD (fVar 0) (fC (.int 1))) fNil))) fNil))) fNil)))))) gNext) (gRet (fOp rAddD (fTup (fCons (fOp rIxD (fVar 0) (fC (.int 0))) fNil)) (fCB rTup1 (fCons (fLc (fiTup (fSl rSlD (fVar 0) (fPart (fC (.int 1))) fNoPart)) (.nm 2) fYes (fCall sp__law_bare (fCons (fVar 2) (fCons (fVar 1) fNil))) [2]) fNil))))))
theorem der__law_bare {P : Program} {w : World} {K : PySem.W.Frag} {mg : Str → Option Value} {base : Heap} {k : Nat} {f : Addr} {sp__law_bare : DSp} {a__law_bare : Addr} {fd__law_bare : FuncData} (n__law_bare : Fn K mg "_law_bare" s__law_bare P__law_bare a__law_bare fd__law_bare) (G__law_bare : FnOk P w K mg base CX0 k a__law_bare fd__law_bare P__law_bare (liftSp K sp__law_bare)) (m_tuple : mg "tuple" = none)
    (cdv : Value) (A : Around) (outer : List Env) (s : Shared) (H : Hp) (E : XK) (hr : Room k (A.deeper (envOfC "_law_bare" (defScope s__law_bare) s.heap.objs.size f cdv))) :
    DSs MT (cxOf CX0 P w K mg base N__law_bare "_law_bare" (defScope s__law_bare) f cdv A outer s H E).nox (defBody s__law_bare) (g__law_bare sp__law_bare) :=
  (dss_cons (ds_if (dt_cmp (od_eq hr.u200) (de_ix (de_var 0) de_int) de_str (nomark _)) (dss_cons (ds_if (dt_cmp (od_in hr.u200) (de_ix (de_var 0) de_int) (de_var 1) (by rfl)) (dss_one (ds_ret (de_tup (da_cons de_str (da_cons (de_bm PySem.F.plainAttrs_list PySem.F.slot_list_index PySem.F.type_list_index (md_index hr.u200) (de_rev (de_var 1) (do_some (de_neg de_int))) (da_cons (de_ix (de_var 0) de_int) da_nil)) da_nil))))) dss_nil) (dss_one (ds_ret (de_var 0)))) dss_nil) (dss_cons (ds_if (dt_cmp (od_eq hr.u200) (de_ix (de_var 0) de_int) de_str (nomark _)) (dss_one (ds_ret (de_tup (da_cons de_str (da_cons de_str (da_cons (de_ix (de_var 0) de_int) (da_cons (de_callN n__law_bare G__law_bare hr (by rfl) (da_cons (de_ix (de_var 0) de_int) (da_cons (de_op od_add (de_var 1) (de_lst (da_cons (de_ix (de_var 0) de_int) da_nil))) da_nil))) da_nil))))))) dss_nil) (dss_one (ds_ret (de_op od_add (de_tup (da_cons (de_ix (de_var 0) de_int) da_nil)) (de_callTy cd_tup1 (by rfl) m_tuple bb_tuple (da_cons (de_lc (by rfl) sc__law_bare.nd (di_tup (de_slice (de_var 0) (do_some de_int) do_none)) (blkOk_by (own := [("_law_one", 2)]) (N := N__law_bare) (sc := defScope s__law_bare) (by decide +kernel)) (fun _ _ _ _ _ => (dp_name (i := 2) sc__law_bare.nd (by rfl) (by first | exact Or.inl rfl | exact Or.inr rfl))) (fun _ _ _ _ _ => dts_nil) (fun _ _ _ _ _ => (de_callN n__law_bare G__law_bare hr (by rfl) (da_cons (de_var 2) (da_cons (de_var 1) da_nil))))) da_nil)))))))
/-! ### _law_dressed -/
abbrev s__law_dressed : Stmt := topS 43
abbrev N__law_dressed : List Str := ["_law_bare_here", "_law_many", "_law_one"]
abbrev P__law_dressed : List Str := ["_law_bare_here", "_law_many"]
theorem sc__law_dressed : FnScope N__law_dressed P__law_dressed (defScope s__law_dressed) := ⟨rfl, rfl, rfl, by decide +kernel, rfl, by decide +kernel, by decide +kernel⟩
def g__law_dressed (sp__law_dressed : DSp) : GS :=
  (gSeq (gIf (fTest (fOp (rEqD false) (fOp rIxD (fVar 0) (fC (.int 0))) (fC (.str "at")))) (gRet (fTup (fCons (fC (.str "name")) (fCons (fOp rAddD (fC (.str "x")) (fCB rStr1 (fCons (fOp rSubD (fOp rSubD (fVar 1) (fC (.int 1))) (fOp rIxD (fVar 0) (fC (.int 1)))) fNil))) fNil)))) gNext) (gSeq (gIf (fTest (fOp (rEqD false) (fOp rIxD (fVar 0) (fC (.int 0))) (fC (.str "name")))) (gRet (fVar 0)) gNext) (gSeq (gIf (fTest (fOp (rEqD false) (fOp rIxD (fVar 0) (fC (.int 0))) (fC (.str "take")))) (gRet (fTup (fCons (fC (.str "take")) (fCons (fOp rAddD (fC (.str "x")) (fCB rStr1 (fCons (fVar 1) fNil))) (fCons (fOp rIxD (fVar 0) (fC (.int 2))) (fCons (fCall sp__law_dressed (fCons (fOp rIxD (fVar 0) (fC (.int 3))) (fCons (fOp rAddD (fVar 1) (fC (.int 1))) fNil))) fNil)))))) gNext) (gRet (fOp rAddD (fTup (fCons (fOp rIxD (fVar 0) (fC (.int 0))) fNil)) (fCB rTup1 (fCons (fLc (fiTup (fSl rSlD (fVar 0) (fPart (fC (.int 1))) fNoPart)) (.nm 2) fYes (fCall sp__law_dressed (fCons (fVar 2) (fCons (fVar 1) fNil))) [2]) fNil)))))))
theorem der__law_dressed {P : Program} {w : World} {K : PySem.W.Frag} {mg : Str → Option Value} {base : Heap} {k : Nat} {f : Addr} {sp__law_dressed : DSp} {a__law_dressed : Addr} {fd__law_dressed : FuncData} (n__law_dressed : Fn K mg "_law_dressed" s__law_dressed P__law_dressed a__law_dressed fd__law_dressed) (G__law_dressed : FnOk P w K mg base CX0 k a__law_dressed fd__law_dressed P__law_dressed (liftSp K sp__law_dressed)) (m_str : mg "str" = none) (m_tuple : mg "tuple" = none)
    (cdv : Value) (A : Around) (outer : List Env) (s : Shared) (H : Hp) (E : XK) (hr : Room k (A.deeper (envOfC "_law_dressed" (defScope s__law_dressed) s.heap.objs.size f cdv))) :
    DSs MT (cxOf CX0 P w K mg base N__law_dressed "_law_dressed" (defScope s__law_dressed) f cdv A outer s H E).nox (defBody s__law_dressed) (g__law_dressed sp__law_dressed) :=
  (dss_cons (ds_if (dt_cmp (od_eq hr.u200) (de_ix (de_var 0) de_int) de_str (nomark _)) (dss_one (ds_ret (de_tup (da_cons de_str (da_cons (de_op od_add de_str (de_callTy cd_str1 (by rfl) m_str bb_str (da_cons (de_op od_sub (de_op od_sub (de_var 1) de_int) (de_ix (de_var 0) de_int)) da_nil))) da_nil))))) dss_nil) (dss_cons (ds_if (dt_cmp (od_eq hr.u200) (de_ix (de_var 0) de_int) de_str (nomark _)) (dss_one (ds_ret (de_var 0))) dss_nil) (dss_cons (ds_if (dt_cmp (od_eq hr.u200) (de_ix (de_var 0) de_int) de_str (nomark _)) (dss_one (ds_ret (de_tup (da_cons de_str (da_cons (de_op od_add de_str (de_callTy cd_str1 (by rfl) m_str bb_str (da_cons (de_var 1) da_nil))) (da_cons (de_ix (de_var 0) de_int) (da_cons (de_callN n__law_dressed G__law_dressed hr (by rfl) (da_cons (de_ix (de_var 0) de_int) (da_cons (de_op od_add (de_var 1) de_int) da_nil))) da_nil))))))) dss_nil) (dss_one (ds_ret (de_op od_add (de_tup (da_cons (de_ix (de_var 0) de_int) da_nil)) (de_callTy cd_tup1 (by rfl) m_tuple bb_tuple (da_cons (de_lc (by rfl) sc__law_dressed.nd (di_tup (de_slice (de_var 0) (do_some de_int) do_none)) (blkOk_by (own := [("_law_one", 2)]) (N := N__law_dressed) (sc := defScope s__law_dressed) (by decide +kernel)) (fun _ _ _ _ _ => (dp_name (i := 2) sc__law_dressed.nd (by rfl) (by first | exact Or.inl rfl | exact Or.inr rfl))) (fun _ _ _ _ _ => dts_nil) (fun _ _ _ _ _ => (de_callN n__law_dressed G__law_dressed hr (by rfl) (da_cons (de_var 2) (da_cons (de_var 1) da_nil))))) da_nil))))))))
/-! ### _law_moved -/
abbrev s__law_moved : Stmt := topS 44
abbrev N__law_moved : List Str := ["_law_bare_here", "_law_from_on", "_law_by", "_law_one"]
abbrev P__law_moved : List Str := ["_law_bare_here", "_law_from_on", "_law_by"]
theorem sc__law_moved : FnScope N__law_moved P__law_moved (defScope s__law_moved) := ⟨rfl, rfl, rfl, by decide +kernel, rfl, by decide +kernel, by decide +kernel⟩
def g__law_moved (sp__law_moved : DSp) : GS :=
  (gSeq (gIf (fTest (fOp (rEqD false) (fOp rIxD (fVar 0) (fC (.int 0))) (fC (.str "at")))) (gRet (fTup (fCons (fC (.str "at")) (fCons (fOp rAddD (fOp rIxD (fVar 0) (fC (.int 1))) (fOp rMulD (fVar 2) (fCB rInt1 (fCons (fOp rGeD (fOp rIxD (fVar 0) (fC (.int 1))) (fVar 1)) fNil)))) fNil)))) gNext) (gSeq (gIf (fTest (fOp (rEqD false) (fOp rIxD (fVar 0) (fC (.int 0))) (fC (.str "name")))) (gRet (fVar 0)) gNext) (gSeq (gIf (fTest (fOp (rEqD false) (fOp rIxD (fVar 0) (fC (.int 0))) (fC (.str "take")))) (gRet (fTup (fCons (fC (.str "take")) (fCons (fC (.str "")) (fCons (fOp rIxD (fVar 0) (fC (.int 2))) (fCons (fCall sp__law_moved (fCons (fOp rIxD (fVar 0) (fC (.int 3))) (fCons (fOp rAddD (fVar 1) (fC (.int 1))) (fCons (fVar 2) fNil)))) fNil)))))) gNext) (gRet (fOp rAddD (fTup (fCons (fOp rIxD (fVar 0) (fC (.int 0))) fNil)) (fCB rTup1 (fCons (fLc (fiTup (fSl rSlD (fVar 0) (fPart (fC (.int 1))) fNoPart)) (.nm 3) fYes (fCall sp__law_moved (fCons (fVar 3) (fCons (fVar 1) (fCons (fVar 2) fNil)))) [3]) fNil)))))))
theorem der__law_moved {P : Program} {w : World} {K : PySem.W.Frag} {mg : Str → Option Value} {base : Heap} {k : Nat} {f : Addr} {sp__law_moved : DSp} {a__law_moved : Addr} {fd__law_moved : FuncData} (n__law_moved : Fn K mg "_law_moved" s__law_moved P__law_moved a__law_moved fd__law_moved) (G__law_moved : FnOk P w K mg base CX0 k a__law_moved fd__law_moved P__law_moved (liftSp K sp__law_moved)) (m_int : mg "int" = none) (m_tuple : mg "tuple" = none)
    (cdv : Value) (A : Around) (outer : List Env) (s : Shared) (H : Hp) (E : XK) (hr : Room k (A.deeper (envOfC "_law_moved" (defScope s__law_moved) s.heap.objs.size f cdv))) :
    DSs MT (cxOf CX0 P w K mg base N__law_moved "_law_moved" (defScope s__law_moved) f cdv A outer s H E).nox (defBody s__law_moved) (g__law_moved sp__law_moved) :=
  (dss_cons (ds_if (dt_cmp (od_eq hr.u200) (de_ix (de_var 0) de_int) de_str (nomark _)) (dss_one (ds_ret (de_tup (da_cons de_str (da_cons (de_op od_add (de_ix (de_var 0) de_int) (de_op od_mul (de_var 2) (de_callTy cd_int1 (by rfl) m_int bb_int (da_cons (de_cmp od_ge (de_ix (de_var 0) de_int) (de_var 1) (nomark _)) da_nil)))) da_nil))))) dss_nil) (dss_cons (ds_if (dt_cmp (od_eq hr.u200) (de_ix (de_var 0) de_int) de_str (nomark _)) (dss_one (ds_ret (de_var 0))) dss_nil) (dss_cons (ds_if (dt_cmp (od_eq hr.u200) (de_ix (de_var 0) de_int) de_str (nomark _)) (dss_one (ds_ret (de_tup (da_cons de_str (da_cons de_str (da_cons (de_ix (de_var 0) de_int) (da_cons (de_callN n__law_moved G__law_moved hr (by rfl) (da_cons (de_ix (de_var 0) de_int) (da_cons (de_op od_add (de_var 1) de_int) (da_cons (de_var 2) da_nil)))) da_nil))))))) dss_nil) (dss_one (ds_ret (de_op od_add (de_tup (da_cons (de_ix (de_var 0) de_int) da_nil)) (de_callTy cd_tup1 (by rfl) m_tuple bb_tuple (da_cons (de_lc (by rfl) sc__law_moved.nd (di_tup (de_slice (de_var 0) (do_some de_int) do_none)) (blkOk_by (own := [("_law_one", 3)]) (N := N__law_moved) (sc := defScope s__law_moved) (by decide +kernel)) (fun _ _ _ _ _ => (dp_name (i := 3) sc__law_moved.nd (by rfl) (by first | exact Or.inl rfl | exact Or.inr rfl))) (fun _ _ _ _ _ => dts_nil) (fun _ _ _ _ _ => (de_callN n__law_moved G__law_moved hr (by rfl) (da_cons (de_var 3) (da_cons (de_var 1) (da_cons (de_var 2) da_nil)))))) da_nil))))))))
/-! ### _law_put -/
abbrev s__law_put : Stmt := topS 45
abbrev N__law_put : List Str := ["_law_bare_here", "_law_at", "_law_given", "_law_one"]
abbrev P__law_put : List Str := ["_law_bare_here", "_law_at", "_law_given"]
theorem sc__law_put : FnScope N__law_put P__law_put (defScope s__law_put) := ⟨rfl, rfl, rfl, by decide +kernel, rfl, by decide +kernel, by decide +kernel⟩
def g__law_put (sp__law_moved sp__law_put : DSp) : GS :=
  (gSeq (gIf (fTest (fOp (rEqD false) (fOp rIxD (fVar 0) (fC (.int 0))) (fC (.str "at")))) (gSeq (gIf (fTest (fOp (rEqD false) (fOp rIxD (fVar 0) (fC (.int 1))) (fVar 1))) (gRet (fCall sp__law_moved (fCons (fVar 2) (fCons (fC (.int 0)) (fCons (fVar 1) fNil))))) gNext) (gRet (fTup (fCons (fC (.str "at")) (fCons (fOp rSubD (fOp rIxD (fVar 0) (fC (.int 1))) (fCB rInt1 (fCons (fOp rGtD (fOp rIxD (fVar 0) (fC (.int 1))) (fVar 1)) fNil))) fNil))))) gNext) (gSeq (gIf (fTest (fOp (rEqD false) (fOp rIxD (fVar 0) (fC (.int 0))) (fC (.str "name")))) (gRet (fVar 0)) gNext) (gSeq (gIf (fTest (fOp (rEqD false) (fOp rIxD (fVar 0) (fC (.int 0))) (fC (.str "take")))) (gRet (fTup (fCons (fC (.str "take")) (fCons (fC (.str "")) (fCons (fOp rIxD (fVar 0) (fC (.int 2))) (fCons (fCall sp__law_put (fCons (fOp rIxD (fVar 0) (fC (.int 3))) (fCons (fOp rAddD (fVar 1) (fC (.int 1))) (fCons (fVar 2) fNil)))) fNil)))))) gNext) (gRet (fOp rAddD (fTup (fCons (fOp rIxD (fVar 0) (fC (.int 0))) fNil)) (fCB rTup1 (fCons (fLc (fiTup (fSl rSlD (fVar 0) (fPart (fC (.int 1))) fNoPart)) (.nm 3) fYes (fCall sp__law_put (fCons (fVar 3) (fCons (fVar 1) (fCons (fVar 2) fNil)))) [3]) fNil)))))))
theorem der__law_put {P : Program} {w : World} {K : PySem.W.Frag} {mg : Str → Option Value} {base : Heap} {k : Nat} {f : Addr} {sp__law_moved sp__law_put : DSp} {a__law_moved : Addr} {fd__law_moved : FuncData} (n__law_moved : Fn K mg "_law_moved" s__law_moved P__law_moved a__law_moved fd__law_moved) (G__law_moved : FnOk P w K mg base CX0 k a__law_moved fd__law_moved P__law_moved (liftSp K sp__law_moved)) {a__law_put : Addr} {fd__law_put : FuncData} (n__law_put : Fn K mg "_law_put" s__law_put P__law_put a__law_put fd__law_put) (G__law_put : FnOk P w K mg base CX0 k a__law_put fd__law_put P__law_put (liftSp K sp__law_put)) (m_int : mg "int" = none) (m_tuple : mg "tuple" = none)
    (cdv : Value) (A : Around) (outer : List Env) (s : Shared) (H : Hp) (E : XK) (hr : Room k (A.deeper (envOfC "_law_put" (defScope s__law_put) s.heap.objs.size f cdv))) :
    DSs MT (cxOf CX0 P w K mg base N__law_put "_law_put" (defScope s__law_put) f cdv A outer s H E).nox (defBody s__law_put) (g__law_put sp__law_moved sp__law_put) :=
  (dss_cons (ds_if (dt_cmp (od_eq hr.u200) (de_ix (de_var 0) de_int) de_str (nomark _)) (dss_cons (ds_if (dt_cmp (od_eq hr.u200) (de_ix (de_var 0) de_int) (de_var 1) (nomark _)) (dss_one (ds_ret (de_callN n__law_moved G__law_moved hr (by rfl) (da_cons (de_var 2) (da_cons de_int (da_cons (de_var 1) da_nil)))))) dss_nil) (dss_one (ds_ret (de_tup (da_cons de_str (da_cons (de_op od_sub (de_ix (de_var 0) de_int) (de_callTy cd_int1 (by rfl) m_int bb_int (da_cons (de_cmp od_gt (de_ix (de_var 0) de_int) (de_var 1) (nomark _)) da_nil))) da_nil)))))) dss_nil) (dss_cons (ds_if (dt_cmp (od_eq hr.u200) (de_ix (de_var 0) de_int) de_str (nomark _)) (dss_one (ds_ret (de_var 0))) dss_nil) (dss_cons (ds_if (dt_cmp (od_eq hr.u200) (de_ix (de_var 0) de_int) de_str (nomark _)) (dss_one (ds_ret (de_tup (da_cons de_str (da_cons de_str (da_cons (de_ix (de_var 0) de_int) (da_cons (de_callN n__law_put G__law_put hr (by rfl) (da_cons (de_ix (de_var 0) de_int) (da_cons (de_op od_add (de_var 1) de_int) (da_cons (de_var 2) da_nil)))) da_nil))))))) dss_nil) (dss_one (ds_ret (de_op od_add (de_tup (da_cons (de_ix (de_var 0) de_int) da_nil)) (de_callTy cd_tup1 (by rfl) m_tuple bb_tuple (da_cons (de_lc (by rfl) sc__law_put.nd (di_tup (de_slice (de_var 0) (do_some de_int) do_none)) (blkOk_by (own := [("_law_one", 3)]) (N := N__law_put) (sc := defScope s__law_put) (by decide +kernel)) (fun _ _ _ _ _ => (dp_name (i := 3) sc__law_put.nd (by rfl) (by first | exact Or.inl rfl | exact Or.inr rfl))) (fun _ _ _ _ _ => dts_nil) (fun _ _ _ _ _ => (de_callN n__law_put G__law_put hr (by rfl) (da_cons (de_var 3) (da_cons (de_var 1) (da_cons (de_var 2) da_nil)))))) da_nil))))))))
/-! ### _law_step -/
abbrev s__law_step : Stmt := topS 46
abbrev N__law_step : List Str := ["_law_bare_here", "_law_place", "_law_some"]
abbrev P__law_step : List Str := ["_law_bare_here", "_law_place"]
theorem sc__law_step : FnScope N__law_step P__law_step (defScope s__law_step) := ⟨rfl, rfl, rfl, by decide +kernel, rfl, by decide +kernel, by decide +kernel⟩
def g__law_step (sp__law_step sp__law_put : DSp) : GS :=
  (gSeq (gIf (fTest (fOp (rEqD true) (fVar 1) (fLst fNil))) (gSeq (gIf (fTest (fOp (rEqD false) (fOp rIxD (fVar 0) (fC (.int 0))) (fC (.str "take")))) (gRet (fTup (fCons (fC (.str "take")) (fCons (fC (.str "")) (fCons (fOp rIxD (fVar 0) (fC (.int 2))) (fCons (fCall sp__law_step (fCons (fOp rIxD (fVar 0) (fC (.int 3))) (fCons (fSl rSlD (fVar 1) (fPart (fC (.int 1))) fNoPart) fNil))) fNil)))))) gNext) (gSeq (gSet (fCB rList1O (fCons (fSl rSlD (fVar 0) (fPart (fC (.int 1))) fNoPart) fNil)) 2) (gSeq (gSetIx (fVar 2) (fOp rIxD (fVar 1) (fC (.int 0))) (fCall sp__law_step (fCons (fOp rIxD (fVar 2) (fOp rIxD (fVar 1) (fC (.int 0)))) (fCons (fSl rSlD (fVar 1) (fPart (fC (.int 1))) fNoPart) fNil)))) (gRet (fOp rAddD (fTup (fCons (fOp rIxD (fVar 0) (fC (.int 0))) fNil)) (fCB rTup1 (fCons (fVar 2) fNil))))))) gNext) (gSeq (gIf (fTest (fOp (rEqD false) (fOp rIxD (fVar 0) (fC (.int 0))) (fC (.str "give")))) (gRet (fCall sp__law_put (fCons (fOp rIxD (fOp rIxD (fVar 0) (fC (.int 1))) (fC (.int 3))) (fCons (fC (.int 0)) (fCons (fOp rIxD (fVar 0) (fC (.int 2))) fNil))))) gNext) (gRet (fOp rIxD (fOp rIxD (fVar 0) (fC (.int 1))) (fOp rAddD (fC (.int 1)) (fCB rInt1 (fCons (fOp (rEqD false) (fOp rIxD (fVar 0) (fC (.int 0))) (fC (.str "second"))) fNil)))))))
theorem der__law_step {P : Program} {w : World} {K : PySem.W.Frag} {mg : Str → Option Value} {base : Heap} {k : Nat} {f : Addr} {sp__law_step sp__law_put : DSp} {a__law_step : Addr} {fd__law_step : FuncData} (n__law_step : Fn K mg "_law_step" s__law_step P__law_step a__law_step fd__law_step) (G__law_step : FnOk P w K mg base CX0 k a__law_step fd__law_step P__law_step (liftSp K sp__law_step)) {a__law_put : Addr} {fd__law_put : FuncData} (n__law_put : Fn K mg "_law_put" s__law_put P__law_put a__law_put fd__law_put) (G__law_put : FnOk P w K mg base CX0 k a__law_put fd__law_put P__law_put (liftSp K sp__law_put)) (m_list : mg "list" = none) (m_tuple : mg "tuple" = none) (m_int : mg "int" = none)
    (cdv : Value) (A : Around) (outer : List Env) (s : Shared) (H : Hp) (E : XK) (hr : Room k (A.deeper (envOfC "_law_step" (defScope s__law_step) s.heap.objs.size f cdv))) :
    DSs MT (cxOf CX0 P w K mg base N__law_step "_law_step" (defScope s__law_step) f cdv A outer s H E).nox (defBody s__law_step) (g__law_step sp__law_step sp__law_put) :=
  (dss_cons (ds_if (dt_cmp (od_ne hr.u200) (de_var 1) (de_lst da_nil) (nomark _)) (dss_cons (ds_if (dt_cmp (od_eq hr.u200) (de_ix (de_var 0) de_int) de_str (nomark _)) (dss_one (ds_ret (de_tup (da_cons de_str (da_cons de_str (da_cons (de_ix (de_var 0) de_int) (da_cons (de_callN n__law_step G__law_step hr (by rfl) (da_cons (de_ix (de_var 0) de_int) (da_cons (de_slice (de_var 1) (do_some de_int) do_none) da_nil))) da_nil))))))) dss_nil) (dss_cons (ds_set (i := 2) sc__law_step.nd rfl (by first | exact Or.inl rfl | exact Or.inr rfl) (de_callTy cd_list1O (by rfl) m_list bb_list (da_cons (de_slice (de_var 0) (do_some de_int) do_none) da_nil))) (dss_cons (ds_setIx (de_var 2) (de_ix (de_var 1) de_int) (de_callN n__law_step G__law_step hr (by rfl) (da_cons (de_ix (de_var 2) (de_ix (de_var 1) de_int)) (da_cons (de_slice (de_var 1) (do_some de_int) do_none) da_nil)))) (dss_one (ds_ret (de_op od_add (de_tup (da_cons (de_ix (de_var 0) de_int) da_nil)) (de_callTy cd_tup1 (by rfl) m_tuple bb_tuple (da_cons (de_var 2) da_nil)))))))) dss_nil) (dss_cons (ds_if (dt_cmp (od_eq hr.u200) (de_ix (de_var 0) de_int) de_str (nomark _)) (dss_one (ds_ret (de_callN n__law_put G__law_put hr (by rfl) (da_cons (de_ix (de_ix (de_var 0) de_int) de_int) (da_cons de_int (da_cons (de_ix (de_var 0) de_int) da_nil)))))) dss_nil) (dss_one (ds_ret (de_ix (de_ix (de_var 0) de_int) (de_op od_add de_int (de_callTy cd_int1 (by rfl) m_int bb_int (da_cons (de_cmp (od_eq hr.u200) (de_ix (de_var 0) de_int) de_str (nomark _)) da_nil))))))))
/-! ### _law_parts -/
abbrev s__law_parts : Stmt := topS 47
abbrev N__law_parts : List Str := ["_law_bare_here", "_law_one"]
abbrev P__law_parts : List Str := ["_law_bare_here"]
theorem sc__law_parts : FnScope N__law_parts P__law_parts (defScope s__law_parts) := ⟨rfl, rfl, rfl, by decide +kernel, rfl, by decide +kernel, by decide +kernel⟩
def g__law_parts (sp__law_inner sp__law_parts : DSp) : GS :=
  (gRet (fOp rAddD (fC (.int 1)) (fCB rSumD (fCons (fLc (fiList (fCall sp__law_inner (fCons (fVar 0) fNil))) (.nm 1) fYes (fCall sp__law_parts (fCons (fVar 1) fNil)) [1]) fNil))))
theorem der__law_parts {P : Program} {w : World} {K : PySem.W.Frag} {mg : Str → Option Value} {base : Heap} {k : Nat} {f : Addr} {sp__law_inner sp__law_parts : DSp} {a__law_inner : Addr} {fd__law_inner : FuncData} (n__law_inner : Fn K mg "_law_inner" s__law_inner P__law_inner a__law_inner fd__law_inner) (G__law_inner : FnOk P w K mg base CX0 k a__law_inner fd__law_inner P__law_inner (liftSp K sp__law_inner)) {a__law_parts : Addr} {fd__law_parts : FuncData} (n__law_parts : Fn K mg "_law_parts" s__law_parts P__law_parts a__law_parts fd__law_parts) (G__law_parts : FnOk P w K mg base CX0 k a__law_parts fd__law_parts P__law_parts (liftSp K sp__law_parts)) (m_sum : mg "sum" = none)
    (cdv : Value) (A : Around) (outer : List Env) (s : Shared) (H : Hp) (E : XK) (hr : Room k (A.deeper (envOfC "_law_parts" (defScope s__law_parts) s.heap.objs.size f cdv))) :
    DSs MT (cxOf CX0 P w K mg base N__law_parts "_law_parts" (defScope s__law_parts) f cdv A outer s H E).nox (defBody s__law_parts) (g__law_parts sp__law_inner sp__law_parts) :=
  (dss_one (ds_ret (de_op od_add de_int (de_callB (cd_sum (by rfl)) (by rfl) m_sum bb_sum (da_cons (de_lc (by rfl) sc__law_parts.nd (di_list (de_callN n__law_inner G__law_inner hr (by rfl) (da_cons (de_var 0) da_nil))) (blkOk_by (own := [("_law_one", 1)]) (N := N__law_parts) (sc := defScope s__law_parts) (by decide +kernel)) (fun _ _ _ _ _ => (dp_name (i := 1) sc__law_parts.nd (by rfl) (by first | exact Or.inl rfl | exact Or.inr rfl))) (fun _ _ _ _ _ => dts_nil) (fun _ _ _ _ _ => (de_callN n__law_parts G__law_parts hr (by rfl) (da_cons (de_var 1) da_nil)))) da_nil)))))
/-! ### _law_high -/
abbrev s__law_high : Stmt := topS 48
abbrev N__law_high : List Str := ["_law_bare_here", "_law_one"]
abbrev P__law_high : List Str := ["_law_bare_here"]
theorem sc__law_high : FnScope N__law_high P__law_high (defScope s__law_high) := ⟨rfl, rfl, rfl, by decide +kernel, rfl, by decide +kernel, by decide +kernel⟩
def g__law_high (sp__law_inner sp__law_high : DSp) : GS :=
  (gRet (fCB rMaxL (fCons (fOp rAddD (fLst (fCons (fC (.int 0)) fNil)) (fLc (fiList (fCall sp__law_inner (fCons (fVar 0) fNil))) (.nm 1) fYes (fOp rAddD (fC (.int 1)) (fCall sp__law_high (fCons (fVar 1) fNil))) [1])) fNil)))
theorem der__law_high {P : Program} {w : World} {K : PySem.W.Frag} {mg : Str → Option Value} {base : Heap} {k : Nat} {f : Addr} {sp__law_inner sp__law_high : DSp} {a__law_inner : Addr} {fd__law_inner : FuncData} (n__law_inner : Fn K mg "_law_inner" s__law_inner P__law_inner a__law_inner fd__law_inner) (G__law_inner : FnOk P w K mg base CX0 k a__law_inner fd__law_inner P__law_inner (liftSp K sp__law_inner)) {a__law_high : Addr} {fd__law_high : FuncData} (n__law_high : Fn K mg "_law_high" s__law_high P__law_high a__law_high fd__law_high) (G__law_high : FnOk P w K mg base CX0 k a__law_high fd__law_high P__law_high (liftSp K sp__law_high)) (m_max : mg "max" = none)
    (cdv : Value) (A : Around) (outer : List Env) (s : Shared) (H : Hp) (E : XK) (hr : Room k (A.deeper (envOfC "_law_high" (defScope s__law_high) s.heap.objs.size f cdv))) :
    DSs MT (cxOf CX0 P w K mg base N__law_high "_law_high" (defScope s__law_high) f cdv A outer s H E).nox (defBody s__law_high) (g__law_high sp__law_inner sp__law_high) :=
  (dss_one (ds_ret (de_callB (cd_maxL (by rfl)) (by rfl) m_max bb_max (da_cons (de_op od_add (de_lst (da_cons de_int da_nil)) (de_lc (by rfl) sc__law_high.nd (di_list (de_callN n__law_inner G__law_inner hr (by rfl) (da_cons (de_var 0) da_nil))) (blkOk_by (own := [("_law_one", 1)]) (N := N__law_high) (sc := defScope s__law_high) (by decide +kernel)) (fun _ _ _ _ _ => (dp_name (i := 1) sc__law_high.nd (by rfl) (by first | exact Or.inl rfl | exact Or.inr rfl))) (fun _ _ _ _ _ => dts_nil) (fun _ _ _ _ _ => (de_op od_add de_int (de_callN n__law_high G__law_high hr (by rfl) (da_cons (de_var 1) da_nil)))))) da_nil))))
/-! ### _law_run -/
abbrev s__law_run : Stmt := topS 49
abbrev N__law_run : List Str := ["_law_bare_here", "_law_picks", "_law_log", "_law_turn", "_law_places_here", "_law_place"]
abbrev P__law_run : List Str := ["_law_bare_here", "_law_picks"]
theorem sc__law_run : FnScope N__law_run P__law_run (defScope s__law_run) := ⟨rfl, rfl, rfl, by decide +kernel, rfl, by decide +kernel, by decide +kernel⟩
def g__law_run (sp__law_places sp__law_dressed sp__law_step sp__law_parts sp__law_high : DSp) : GS :=
  (gSeq (gSet (fLstO fNil) 2) (gSeq (gFor (fiRng1 (fCons (fC (.int 201)) fNil)) (.nm 3) (gSeq (gSet (fCall sp__law_places (fCons (fVar 0) (fCons (fLst fNil) fNil))) 4) (gSeq (gIf (fTest (fOp (rEqD false) (fVar 4) (fLst fNil))) (gFrz 2 (gRet (fTup (fCons (fCall sp__law_dressed (fCons (fVar 0) (fCons (fC (.int 0)) fNil))) (fCons (fVar 2) fNil))))) gNext) (gSeq (gIf (fTest (fOp (rEqD false) (fVar 3) (fC (.int 200)))) (gRet (fC .non)) gNext) (gSeq (gSet (fOp rIxD (fVar 4) (fOp rModD (fOp rIxD (fOp rAddD (fVar 1) (fLst (fCons (fC (.int 0)) fNil))) (fOp rModD (fVar 3) (fCB rMax2 (fCons (fC (.int 1)) (fCons (fCB rLenD (fCons (fVar 1) fNil)) fNil))))) (fCB rLenD (fCons (fVar 4) fNil)))) 5) (gSeq (gSet (fCall sp__law_step (fCons (fVar 0) (fCons (fVar 5) fNil))) 0) (gSeq (gIf (fOr (fTest (fOp rGtD (fCall sp__law_parts (fCons (fVar 0) fNil)) (fC (.int 1500)))) (fTest (fOp rGtD (fCall sp__law_high (fCons (fVar 0) fNil)) (fC (.int 100))))) (gRet (fC .non)) gNext) (gDrop (fBM "list" rAppendD (fVar 2) (fCons (fVar 5) fNil)))))))))) (gRet (fC .non))))
theorem der__law_run {P : Program} {w : World} {K : PySem.W.Frag} {mg : Str → Option Value} {base : Heap} {k : Nat} {f : Addr} {sp__law_places sp__law_dressed sp__law_step sp__law_parts sp__law_high : DSp} {a__law_places : Addr} {fd__law_places : FuncData} (n__law_places : Fn K mg "_law_places" s__law_places P__law_places a__law_places fd__law_places) (G__law_places : FnOk P w K mg base CX0 k a__law_places fd__law_places P__law_places (liftSp K sp__law_places)) {a__law_dressed : Addr} {fd__law_dressed : FuncData} (n__law_dressed : Fn K mg "_law_dressed" s__law_dressed P__law_dressed a__law_dressed fd__law_dressed) (G__law_dressed : FnOk P w K mg base CX0 k a__law_dressed fd__law_dressed P__law_dressed (liftSp K sp__law_dressed)) {a__law_step : Addr} {fd__law_step : FuncData} (n__law_step : Fn K mg "_law_step" s__law_step P__law_step a__law_step fd__law_step) (G__law_step : FnOk P w K mg base CX0 k a__law_step fd__law_step P__law_step (liftSp K sp__law_step)) {a__law_parts : Addr} {fd__law_parts : FuncData} (n__law_parts : Fn K mg "_law_parts" s__law_parts P__law_parts a__law_parts fd__law_parts) (G__law_parts : FnOk P w K mg base CX0 k a__law_parts fd__law_parts P__law_parts (liftSp K sp__law_parts)) {a__law_high : Addr} {fd__law_high : FuncData} (n__law_high : Fn K mg "_law_high" s__law_high P__law_high a__law_high fd__law_high) (G__law_high : FnOk P w K mg base CX0 k a__law_high fd__law_high P__law_high (liftSp K sp__law_high)) (m_range : mg "range" = none) (m_len : mg "len" = none) (m_max : mg "max" = none)
    (cdv : Value) (A : Around) (outer : List Env) (s : Shared) (H : Hp) (E : XK) (hr : Room k (A.deeper (envOfC "_law_run" (defScope s__law_run) s.heap.objs.size f cdv))) :
    DSs MT (cxOf CX0 P w K mg base N__law_run "_law_run" (defScope s__law_run) f cdv A outer s H E).nox (defBody s__law_run) (g__law_run sp__law_places sp__law_dressed sp__law_step sp__law_parts sp__law_high) :=
  (dss_cons (ds_set (i := 2) sc__law_run.nd rfl (by first | exact Or.inl rfl | exact Or.inr rfl) (de_lstO da_nil)) (dss_cons (ds_for PassesOwn.never rfl (di_range1 (by rfl) m_range (da_cons de_int da_nil)) (dp_name (i := 3) sc__law_run.nd (by rfl) (by first | exact Or.inl rfl | exact Or.inr rfl)) (dss_cons (ds_set (i := 4) sc__law_run.nd rfl (by first | exact Or.inl rfl | exact Or.inr rfl) (de_callN n__law_places G__law_places hr (by rfl) (da_cons (de_var 0) (da_cons (de_lst da_nil) da_nil)))) (dss_cons (ds_if (dt_cmp (od_eq hr.u200) (de_var 4) (de_lst da_nil) (nomark _)) (dss_frz 2 (dss_one (ds_ret (de_tup (da_cons (de_callN n__law_dressed G__law_dressed hr (by rfl) (da_cons (de_var 0) (da_cons de_int da_nil))) (da_cons (de_var 2) da_nil)))))) dss_nil) (dss_cons (ds_if (dt_cmp (od_eq hr.u200) (de_var 3) de_int (nomark _)) (dss_one (ds_ret de_non)) dss_nil) (dss_cons (ds_set (i := 5) sc__law_run.nd rfl (by first | exact Or.inl rfl | exact Or.inr rfl) (de_ix (de_var 4) (de_op od_mod (de_ix (de_op od_add (de_var 1) (de_lst (da_cons de_int da_nil))) (de_op od_mod (de_var 3) (de_callB (cd_max2 (by rfl)) (by rfl) m_max bb_max (da_cons de_int (da_cons (de_callB cd_len (by rfl) m_len bb_len (da_cons (de_var 1) da_nil)) da_nil))))) (de_callB cd_len (by rfl) m_len bb_len (da_cons (de_var 4) da_nil))))) (dss_cons (ds_set (i := 0) sc__law_run.nd rfl (by first | exact Or.inl rfl | exact Or.inr rfl) (de_callN n__law_step G__law_step hr (by rfl) (da_cons (de_var 0) (da_cons (de_var 5) da_nil)))) (dss_cons (ds_if (dt_of (dw_or (dt_cmp od_gt (de_callN n__law_parts G__law_parts hr (by rfl) (da_cons (de_var 0) da_nil)) de_int (nomark _)) (dw_or1 (dt_cmp od_gt (de_callN n__law_high G__law_high hr (by rfl) (da_cons (de_var 0) da_nil)) de_int (nomark _))))) (dss_one (ds_ret de_non)) dss_nil) (dss_one (ds_expr (de_bm PySem.F.plainAttrs_list PySem.F.slot_list_append PySem.F.type_list_append md_append (de_var 2) (da_cons (de_var 5) da_nil))))))))))) (dss_one (ds_ret de_non))))
/-! ### _law_level -/
abbrev s__law_level : Stmt := topS 50
abbrev N__law_level : List Str := ["_law_high_here", "_law_kind", "_law_turn"]
abbrev P__law_level : List Str := ["_law_high_here"]
theorem sc__law_level : FnScope N__law_level P__law_level (defScope s__law_level) := ⟨rfl, rfl, rfl, by decide +kernel, rfl, by decide +kernel, by decide +kernel⟩
def g__law_level : GS :=
  (gSeq (gSet (fTup (fCons (fC (.str "mark")) (fCons (fC (.str "a")) fNil))) 1) (gSeq (gFor (fiRng1 (fCons (fVar 0) fNil)) (.nm 2) (gSet (fTup (fCons (fC (.str "to")) (fCons (fVar 1) (fCons (fVar 1) fNil)))) 1)) (gRet (fVar 1))))
theorem der__law_level {P : Program} {w : World} {K : PySem.W.Frag} {mg : Str → Option Value} {base : Heap} {k : Nat} {f : Addr} (m_range : mg "range" = none)
    (cdv : Value) (A : Around) (outer : List Env) (s : Shared) (H : Hp) (E : XK) (hr : Room k (A.deeper (envOfC "_law_level" (defScope s__law_level) s.heap.objs.size f cdv))) :
    DSs MT (cxOf CX0 P w K mg base N__law_level "_law_level" (defScope s__law_level) f cdv A outer s H E).nox (defBody s__law_level) (g__law_level) :=
  (dss_cons (ds_set (i := 1) sc__law_level.nd rfl (by first | exact Or.inl rfl | exact Or.inr rfl) (de_tup (da_cons de_str (da_cons de_str da_nil)))) (dss_cons (ds_for PassesOwn.never rfl (di_range1 (by rfl) m_range (da_cons (de_var 0) da_nil)) (dp_name (i := 2) sc__law_level.nd (by rfl) (by first | exact Or.inl rfl | exact Or.inr rfl)) (dss_one (ds_set (i := 1) sc__law_level.nd rfl (by first | exact Or.inl rfl | exact Or.inr rfl) (de_tup (da_cons de_str (da_cons (de_var 1) (da_cons (de_var 1) da_nil))))))) (dss_one (ds_ret (de_var 1)))))
/-! ### _law_often -/
abbrev s__law_often : Stmt := topS 51
abbrev N__law_often : List Str := ["_law_high_here", "_law_many", "_law_body", "_law_turn"]
abbrev P__law_often : List Str := ["_law_high_here", "_law_many"]
theorem sc__law_often : FnScope N__law_often P__law_often (defScope s__law_often) := ⟨rfl, rfl, rfl, by decide +kernel, rfl, by decide +kernel, by decide +kernel⟩
def g__law_often (sp__law_level : DSp) : GS :=
  (gSeq (gSet (fTup (fCons (fC (.str "name")) (fCons (fC (.str "y")) fNil))) 2) (gSeq (gFor (fiRng1 (fCons (fVar 1) fNil)) (.nm 3) (gSet (fTup (fCons (fC (.str "give")) (fCons (fTup (fCons (fC (.str "name")) (fCons (fC (.str "z")) fNil))) (fCons (fVar 2) fNil)))) 2)) (gRet (fTup (fCons (fC (.str "take")) (fCons (fC (.str "z")) (fCons (fCall sp__law_level (fCons (fVar 0) fNil)) (fCons (fTup (fCons (fC (.str "take")) (fCons (fC (.str "y")) (fCons (fCall sp__law_level (fCons (fOp rSubD (fVar 0) (fC (.int 1))) fNil)) (fCons (fVar 2) fNil))))) fNil))))))))
theorem der__law_often {P : Program} {w : World} {K : PySem.W.Frag} {mg : Str → Option Value} {base : Heap} {k : Nat} {f : Addr} {sp__law_level : DSp} {a__law_level : Addr} {fd__law_level : FuncData} (n__law_level : Fn K mg "_law_level" s__law_level P__law_level a__law_level fd__law_level) (G__law_level : FnOk P w K mg base CX0 k a__law_level fd__law_level P__law_level (liftSp K sp__law_level)) (m_range : mg "range" = none)
    (cdv : Value) (A : Around) (outer : List Env) (s : Shared) (H : Hp) (E : XK) (hr : Room k (A.deeper (envOfC "_law_often" (defScope s__law_often) s.heap.objs.size f cdv))) :
    DSs MT (cxOf CX0 P w K mg base N__law_often "_law_often" (defScope s__law_often) f cdv A outer s H E).nox (defBody s__law_often) (g__law_often sp__law_level) :=
  (dss_cons (ds_set (i := 2) sc__law_often.nd rfl (by first | exact Or.inl rfl | exact Or.inr rfl) (de_tup (da_cons de_str (da_cons de_str da_nil)))) (dss_cons (ds_for PassesOwn.never rfl (di_range1 (by rfl) m_range (da_cons (de_var 1) da_nil)) (dp_name (i := 3) sc__law_often.nd (by rfl) (by first | exact Or.inl rfl | exact Or.inr rfl)) (dss_one (ds_set (i := 2) sc__law_often.nd rfl (by first | exact Or.inl rfl | exact Or.inr rfl) (de_tup (da_cons de_str (da_cons (de_tup (da_cons de_str (da_cons de_str da_nil))) (da_cons (de_var 2) da_nil))))))) (dss_one (ds_ret (de_tup (da_cons de_str (da_cons de_str (da_cons (de_callN n__law_level G__law_level hr (by rfl) (da_cons (de_var 0) da_nil)) (da_cons (de_tup (da_cons de_str (da_cons de_str (da_cons (de_callN n__law_level G__law_level hr (by rfl) (da_cons (de_op od_sub (de_var 0) de_int) da_nil)) (da_cons (de_var 2) da_nil))))) da_nil)))))))))
/-! ### _law_tower -/
abbrev s__law_tower : Stmt := topS 52
abbrev N__law_tower : List Str := ["_law_pool_here", "_law_high_here", "_law_program", "_law_low", "_law_turn"]
abbrev P__law_tower : List Str := ["_law_pool_here"]
theorem sc__law_tower : FnScope N__law_tower P__law_tower (defScope s__law_tower) := ⟨rfl, rfl, rfl, by decide +kernel, rfl, by decide +kernel, by decide +kernel⟩
def g__law_tower (sp__law_take sp__law_often : DSp) : GS :=
  (gSeq (gSet (fOp rAddD (fC (.int 1)) (fCall sp__law_take (fCons (fVar 0) (fCons (fC (.int 3)) fNil)))) 1) (gSeq (gSet (fCall sp__law_often (fCons (fVar 1) (fCons (fOp rAddD (fC (.int 1)) (fCall sp__law_take (fCons (fVar 0) (fCons (fOp rIxD (fLst (fCons (fC (.int 3)) (fCons (fC (.int 11)) fNil))) (fCB rInt1 (fCons (fOp (rEqD false) (fVar 1) (fC (.int 1))) fNil))) fNil)))) fNil))) 2) (gSeq (gFor (fiRng3 (fCons (fOp rSubD (fVar 1) (fC (.int 1))) (fCons (fC (.int 0)) (fCons (fUn rNeg (fC (.int 1))) fNil)))) (.nm 3) (gSet (fTup (fCons (fC (.str "give")) (fCons (fVar 2) (fCons (fCall sp__law_often (fCons (fVar 3) (fCons (fOp rAddD (fC (.int 1)) (fCall sp__law_take (fCons (fVar 0) (fCons (fOp rIxD (fLst (fCons (fC (.int 3)) (fCons (fC (.int 11)) fNil))) (fCB rInt1 (fCons (fOp (rEqD false) (fVar 3) (fC (.int 1))) fNil))) fNil)))) fNil))) fNil)))) 2)) (gSeq (gSet (fTup (fCons (fC (.str "give")) (fCons (fTup (fCons (fC (.str "give")) (fCons (fVar 2) (fCons (fTup (fCons (fC (.str "name")) (fCons (fC (.str "f")) fNil))) fNil)))) (fCons (fTup (fCons (fC (.str "name")) (fCons (fC (.str "p")) fNil))) fNil)))) 2) (gSeq (gFor (fiRng1 (fCons (fCall sp__law_take (fCons (fVar 0) (fCons (fC (.int 21)) fNil))) fNil)) (.nm 4) (gSet (fTup (fCons (fC (.str "give")) (fCons (fTup (fCons (fC (.str "name")) (fCons (fC (.str "f")) fNil))) (fCons (fVar 2) fNil)))) 2)) (gRet (fVar 2)))))))
theorem der__law_tower {P : Program} {w : World} {K : PySem.W.Frag} {mg : Str → Option Value} {base : Heap} {k : Nat} {f : Addr} {sp__law_take sp__law_often : DSp} {a__law_take : Addr} {fd__law_take : FuncData} (n__law_take : Fn K mg "_law_take" s__law_take P__law_take a__law_take fd__law_take) (G__law_take : FnOk P w K mg base CX0 k a__law_take fd__law_take P__law_take (liftSp K sp__law_take)) {a__law_often : Addr} {fd__law_often : FuncData} (n__law_often : Fn K mg "_law_often" s__law_often P__law_often a__law_often fd__law_often) (G__law_often : FnOk P w K mg base CX0 k a__law_often fd__law_often P__law_often (liftSp K sp__law_often)) (m_int : mg "int" = none) (m_range : mg "range" = none)
    (cdv : Value) (A : Around) (outer : List Env) (s : Shared) (H : Hp) (E : XK) (hr : Room k (A.deeper (envOfC "_law_tower" (defScope s__law_tower) s.heap.objs.size f cdv))) :
    DSs MT (cxOf CX0 P w K mg base N__law_tower "_law_tower" (defScope s__law_tower) f cdv A outer s H E).nox (defBody s__law_tower) (g__law_tower sp__law_take sp__law_often) :=
  (dss_cons (ds_set (i := 1) sc__law_tower.nd rfl (by first | exact Or.inl rfl | exact Or.inr rfl) (de_op od_add de_int (de_callN n__law_take G__law_take hr (by rfl) (da_cons (de_var 0) (da_cons de_int da_nil))))) (dss_cons (ds_set (i := 2) sc__law_tower.nd rfl (by first | exact Or.inl rfl | exact Or.inr rfl) (de_callN n__law_often G__law_often hr (by rfl) (da_cons (de_var 1) (da_cons (de_op od_add de_int (de_callN n__law_take G__law_take hr (by rfl) (da_cons (de_var 0) (da_cons (de_ix (de_lst (da_cons de_int (da_cons de_int da_nil))) (de_callTy cd_int1 (by rfl) m_int bb_int (da_cons (de_cmp (od_eq hr.u200) (de_var 1) de_int (nomark _)) da_nil))) da_nil)))) da_nil)))) (dss_cons (ds_for PassesOwn.never rfl (di_range3 (by rfl) m_range (da_cons (de_op od_sub (de_var 1) de_int) (da_cons de_int (da_cons (de_neg de_int) da_nil)))) (dp_name (i := 3) sc__law_tower.nd (by rfl) (by first | exact Or.inl rfl | exact Or.inr rfl)) (dss_one (ds_set (i := 2) sc__law_tower.nd rfl (by first | exact Or.inl rfl | exact Or.inr rfl) (de_tup (da_cons de_str (da_cons (de_var 2) (da_cons (de_callN n__law_often G__law_often hr (by rfl) (da_cons (de_var 3) (da_cons (de_op od_add de_int (de_callN n__law_take G__law_take hr (by rfl) (da_cons (de_var 0) (da_cons (de_ix (de_lst (da_cons de_int (da_cons de_int da_nil))) (de_callTy cd_int1 (by rfl) m_int bb_int (da_cons (de_cmp (od_eq hr.u200) (de_var 3) de_int (nomark _)) da_nil))) da_nil)))) da_nil))) da_nil))))))) (dss_cons (ds_set (i := 2) sc__law_tower.nd rfl (by first | exact Or.inl rfl | exact Or.inr rfl) (de_tup (da_cons de_str (da_cons (de_tup (da_cons de_str (da_cons (de_var 2) (da_cons (de_tup (da_cons de_str (da_cons de_str da_nil))) da_nil)))) (da_cons (de_tup (da_cons de_str (da_cons de_str da_nil))) da_nil))))) (dss_cons (ds_for PassesOwn.never rfl (di_range1 (by rfl) m_range (da_cons (de_callN n__law_take G__law_take hr (by rfl) (da_cons (de_var 0) (da_cons de_int da_nil))) da_nil)) (dp_name (i := 4) sc__law_tower.nd (by rfl) (by first | exact Or.inl rfl | exact Or.inr rfl)) (dss_one (ds_set (i := 2) sc__law_tower.nd rfl (by first | exact Or.inl rfl | exact Or.inr rfl) (de_tup (da_cons de_str (da_cons (de_tup (da_cons de_str (da_cons de_str da_nil))) (da_cons (de_var 2) da_nil))))))) (dss_one (ds_ret (de_var 2))))))))
/-! ### _law_doubled -/
abbrev s__law_doubled : Stmt := topS 53
abbrev N__law_doubled : List Str := ["_law_program", "_law_often_here", "_law_kind", "_law_turn"]
abbrev P__law_doubled : List Str := ["_law_program", "_law_often_here"]
theorem sc__law_doubled : FnScope N__law_doubled P__law_doubled (defScope s__law_doubled) := ⟨rfl, rfl, rfl, by decide +kernel, rfl, by decide +kernel, by decide +kernel⟩
def g__law_doubled : GS :=
  (gSeq (gSet (fTup (fCons (fC (.str "mark")) (fCons (fC (.str "a")) fNil))) 2) (gSeq (gFor (fiRng1 (fCons (fVar 1) fNil)) (.nm 3) (gSeq (gSet (fTup (fCons (fC (.str "give")) (fCons (fTup (fCons (fC (.str "take")) (fCons (fC (.str "z")) (fCons (fVar 2) (fCons (fTup (fCons (fC (.str "pair")) (fCons (fTup (fCons (fC (.str "name")) (fCons (fC (.str "z")) fNil))) (fCons (fTup (fCons (fC (.str "name")) (fCons (fC (.str "z")) fNil))) fNil)))) fNil))))) (fCons (fVar 0) fNil)))) 0) (gSet (fTup (fCons (fC (.str "both")) (fCons (fVar 2) (fCons (fVar 2) fNil)))) 2))) (gRet (fVar 0))))
theorem der__law_doubled {P : Program} {w : World} {K : PySem.W.Frag} {mg : Str → Option Value} {base : Heap} {k : Nat} {f : Addr} (m_range : mg "range" = none)
    (cdv : Value) (A : Around) (outer : List Env) (s : Shared) (H : Hp) (E : XK) (hr : Room k (A.deeper (envOfC "_law_doubled" (defScope s__law_doubled) s.heap.objs.size f cdv))) :
    DSs MT (cxOf CX0 P w K mg base N__law_doubled "_law_doubled" (defScope s__law_doubled) f cdv A outer s H E).nox (defBody s__law_doubled) (g__law_doubled) :=
  (dss_cons (ds_set (i := 2) sc__law_doubled.nd rfl (by first | exact Or.inl rfl | exact Or.inr rfl) (de_tup (da_cons de_str (da_cons de_str da_nil)))) (dss_cons (ds_for PassesOwn.never rfl (di_range1 (by rfl) m_range (da_cons (de_var 1) da_nil)) (dp_name (i := 3) sc__law_doubled.nd (by rfl) (by first | exact Or.inl rfl | exact Or.inr rfl)) (dss_cons (ds_set (i := 0) sc__law_doubled.nd rfl (by first | exact Or.inl rfl | exact Or.inr rfl) (de_tup (da_cons de_str (da_cons (de_tup (da_cons de_str (da_cons de_str (da_cons (de_var 2) (da_cons (de_tup (da_cons de_str (da_cons (de_tup (da_cons de_str (da_cons de_str da_nil))) (da_cons (de_tup (da_cons de_str (da_cons de_str da_nil))) da_nil)))) da_nil))))) (da_cons (de_var 0) da_nil))))) (dss_one (ds_set (i := 2) sc__law_doubled.nd rfl (by first | exact Or.inl rfl | exact Or.inr rfl) (de_tup (da_cons de_str (da_cons (de_var 2) (da_cons (de_var 2) da_nil)))))))) (dss_one (ds_ret (de_var 0)))))
/-! ### _law_halves -/
abbrev s__law_halves : Stmt := topS 54
abbrev N__law_halves : List Str := ["_law_pool_here", "_law_program", "_law_turn"]
abbrev P__law_halves : List Str := ["_law_pool_here"]
theorem sc__law_halves : FnScope N__law_halves P__law_halves (defScope s__law_halves) := ⟨rfl, rfl, rfl, by decide +kernel, rfl, by decide +kernel, by decide +kernel⟩
def g__law_halves (sp__law_take sp__law_doubled : DSp) : GS :=
  (gSeq (gSet (fTup (fCons (fC (.str "name")) (fCons (fC (.str "p")) fNil))) 1) (gSeq (gFor (fiRng1 (fCons (fOp rIxD (fLst (fCons (fOp rAddD (fC (.int 22)) (fCall sp__law_take (fCons (fVar 0) (fCons (fC (.int 4)) fNil)))) (fCons (fCall sp__law_take (fCons (fVar 0) (fCons (fC (.int 30)) fNil))) fNil))) (fCall sp__law_take (fCons (fVar 0) (fCons (fC (.int 2)) fNil)))) fNil)) (.nm 2) (gSet (fTup (fCons (fC (.str "first")) (fCons (fTup (fCons (fC (.str "pair")) (fCons (fVar 1) (fCons (fTup (fCons (fC (.str "thing")) fNil)) fNil)))) fNil))) 1)) (gSeq (gSet (fCall sp__law_doubled (fCons (fVar 1) (fCons (fOp rIxD (fLst (fCons (fC (.int 3)) (fCons (fC (.int 3)) (fCons (fC (.int 1)) (fCons (fC (.int 2)) fNil))))) (fCall sp__law_take (fCons (fVar 0) (fCons (fC (.int 4)) fNil)))) fNil))) 1) (gSeq (gFor (fiRng1 (fCons (fCall sp__law_take (fCons (fVar 0) (fCons (fC (.int 10)) fNil))) fNil)) (.nm 2) (gSet (fTup (fCons (fC (.str "pair")) (fCons (fTup (fCons (fC (.str "second")) (fCons (fTup (fCons (fC (.str "pair")) (fCons (fTup (fCons (fC (.str "thing")) fNil)) (fCons (fTup (fCons (fC (.str "name")) (fCons (fC (.str "p")) fNil))) fNil)))) fNil))) (fCons (fVar 1) fNil)))) 1)) (gRet (fVar 1))))))
theorem der__law_halves {P : Program} {w : World} {K : PySem.W.Frag} {mg : Str → Option Value} {base : Heap} {k : Nat} {f : Addr} {sp__law_take sp__law_doubled : DSp} {a__law_take : Addr} {fd__law_take : FuncData} (n__law_take : Fn K mg "_law_take" s__law_take P__law_take a__law_take fd__law_take) (G__law_take : FnOk P w K mg base CX0 k a__law_take fd__law_take P__law_take (liftSp K sp__law_take)) {a__law_doubled : Addr} {fd__law_doubled : FuncData} (n__law_doubled : Fn K mg "_law_doubled" s__law_doubled P__law_doubled a__law_doubled fd__law_doubled) (G__law_doubled : FnOk P w K mg base CX0 k a__law_doubled fd__law_doubled P__law_doubled (liftSp K sp__law_doubled)) (m_range : mg "range" = none)
    (cdv : Value) (A : Around) (outer : List Env) (s : Shared) (H : Hp) (E : XK) (hr : Room k (A.deeper (envOfC "_law_halves" (defScope s__law_halves) s.heap.objs.size f cdv))) :
    DSs MT (cxOf CX0 P w K mg base N__law_halves "_law_halves" (defScope s__law_halves) f cdv A outer s H E).nox (defBody s__law_halves) (g__law_halves sp__law_take sp__law_doubled) :=
  (dss_cons (ds_set (i := 1) sc__law_halves.nd rfl (by first | exact Or.inl rfl | exact Or.inr rfl) (de_tup (da_cons de_str (da_cons de_str da_nil)))) (dss_cons (ds_for PassesOwn.never rfl (di_range1 (by rfl) m_range (da_cons (de_ix (de_lst (da_cons (de_op od_add de_int (de_callN n__law_take G__law_take hr (by rfl) (da_cons (de_var 0) (da_cons de_int da_nil)))) (da_cons (de_callN n__law_take G__law_take hr (by rfl) (da_cons (de_var 0) (da_cons de_int da_nil))) da_nil))) (de_callN n__law_take G__law_take hr (by rfl) (da_cons (de_var 0) (da_cons de_int da_nil)))) da_nil)) (dp_name (i := 2) sc__law_halves.nd (by rfl) (by first | exact Or.inl rfl | exact Or.inr rfl)) (dss_one (ds_set (i := 1) sc__law_halves.nd rfl (by first | exact Or.inl rfl | exact Or.inr rfl) (de_tup (da_cons de_str (da_cons (de_tup (da_cons de_str (da_cons (de_var 1) (da_cons (de_tup (da_cons de_str da_nil)) da_nil)))) da_nil)))))) (dss_cons (ds_set (i := 1) sc__law_halves.nd rfl (by first | exact Or.inl rfl | exact Or.inr rfl) (de_callN n__law_doubled G__law_doubled hr (by rfl) (da_cons (de_var 1) (da_cons (de_ix (de_lst (da_cons de_int (da_cons de_int (da_cons de_int (da_cons de_int da_nil))))) (de_callN n__law_take G__law_take hr (by rfl) (da_cons (de_var 0) (da_cons de_int da_nil)))) da_nil)))) (dss_cons (ds_for PassesOwn.never rfl (di_range1 (by rfl) m_range (da_cons (de_callN n__law_take G__law_take hr (by rfl) (da_cons (de_var 0) (da_cons de_int da_nil))) da_nil)) (dp_name (i := 2) sc__law_halves.nd (by rfl) (by first | exact Or.inl rfl | exact Or.inr rfl)) (dss_one (ds_set (i := 1) sc__law_halves.nd rfl (by first | exact Or.inl rfl | exact Or.inr rfl) (de_tup (da_cons de_str (da_cons (de_tup (da_cons de_str (da_cons (de_tup (da_cons de_str (da_cons (de_tup (da_cons de_str da_nil)) (da_cons (de_tup (da_cons de_str (da_cons de_str da_nil))) da_nil)))) da_nil))) (da_cons (de_var 1) da_nil))))))) (dss_one (ds_ret (de_var 1)))))))
/-! ### _law_row -/
abbrev s__law_row : Stmt := topS 55
abbrev N__law_row : List Str := ["_law_many", "_law_program", "_law_turn"]
abbrev P__law_row : List Str := ["_law_many"]
theorem sc__law_row : FnScope N__law_row P__law_row (defScope s__law_row) := ⟨rfl, rfl, rfl, by decide +kernel, rfl, by decide +kernel, by decide +kernel⟩
def g__law_row : GS :=
  (gSeq (gSet (fTup (fCons (fC (.str "name")) (fCons (fC (.str "p")) fNil))) 1) (gSeq (gFor (fiRng1 (fCons (fVar 0) fNil)) (.nm 2) (gSet (fTup (fCons (fC (.str "give")) (fCons (fTup (fCons (fC (.str "name")) (fCons (fC (.str "f")) fNil))) (fCons (fVar 1) fNil)))) 1)) (gRet (fVar 1))))
theorem der__law_row {P : Program} {w : World} {K : PySem.W.Frag} {mg : Str → Option Value} {base : Heap} {k : Nat} {f : Addr} (m_range : mg "range" = none)
    (cdv : Value) (A : Around) (outer : List Env) (s : Shared) (H : Hp) (E : XK) (hr : Room k (A.deeper (envOfC "_law_row" (defScope s__law_row) s.heap.objs.size f cdv))) :
    DSs MT (cxOf CX0 P w K mg base N__law_row "_law_row" (defScope s__law_row) f cdv A outer s H E).nox (defBody s__law_row) (g__law_row) :=
  (dss_cons (ds_set (i := 1) sc__law_row.nd rfl (by first | exact Or.inl rfl | exact Or.inr rfl) (de_tup (da_cons de_str (da_cons de_str da_nil)))) (dss_cons (ds_for PassesOwn.never rfl (di_range1 (by rfl) m_range (da_cons (de_var 0) da_nil)) (dp_name (i := 2) sc__law_row.nd (by rfl) (by first | exact Or.inl rfl | exact Or.inr rfl)) (dss_one (ds_set (i := 1) sc__law_row.nd rfl (by first | exact Or.inl rfl | exact Or.inr rfl) (de_tup (da_cons de_str (da_cons (de_tup (da_cons de_str (da_cons de_str da_nil))) (da_cons (de_var 1) da_nil))))))) (dss_one (ds_ret (de_var 1)))))
/-! ### _law_wide -/
abbrev s__law_wide : Stmt := topS 56
abbrev N__law_wide : List Str := ["_law_pool_here", "_law_program", "_law_turn"]
abbrev P__law_wide : List Str := ["_law_pool_here"]
theorem sc__law_wide : FnScope N__law_wide P__law_wide (defScope s__law_wide) := ⟨rfl, rfl, rfl, by decide +kernel, rfl, by decide +kernel, by decide +kernel⟩
def g__law_wide (sp__law_doubled sp__law_row sp__law_take : DSp) : GS :=
  (gSeq (gSet (fCall sp__law_doubled (fCons (fCall sp__law_row (fCons (fOp rAddD (fC (.int 40)) (fCall sp__law_take (fCons (fVar 0) (fCons (fC (.int 8)) fNil)))) fNil)) (fCons (fOp rIxD (fLst (fCons (fC (.int 4)) (fCons (fC (.int 4)) (fCons (fC (.int 4)) (fCons (fC (.int 3)) fNil))))) (fCall sp__law_take (fCons (fVar 0) (fCons (fC (.int 4)) fNil)))) fNil))) 1) (gSeq (gFor (fiRng1 (fCons (fCall sp__law_take (fCons (fVar 0) (fCons (fC (.int 21)) fNil))) fNil)) (.nm 2) (gSet (fTup (fCons (fC (.str "pair")) (fCons (fTup (fCons (fC (.str "thing")) fNil)) (fCons (fVar 1) fNil)))) 1)) (gSeq (gIf (fTest (fOp (rEqD false) (fCall sp__law_take (fCons (fVar 0) (fCons (fC (.int 2)) fNil))) (fC (.int 0)))) (gSet (fTup (fCons (fC (.str "take")) (fCons (fC (.str "y")) (fCons (fTup (fCons (fC (.str "mark")) (fCons (fC (.str "a")) fNil))) (fCons (fVar 1) fNil))))) 1) gNext) (gRet (fVar 1)))))
theorem der__law_wide {P : Program} {w : World} {K : PySem.W.Frag} {mg : Str → Option Value} {base : Heap} {k : Nat} {f : Addr} {sp__law_doubled sp__law_row sp__law_take : DSp} {a__law_doubled : Addr} {fd__law_doubled : FuncData} (n__law_doubled : Fn K mg "_law_doubled" s__law_doubled P__law_doubled a__law_doubled fd__law_doubled) (G__law_doubled : FnOk P w K mg base CX0 k a__law_doubled fd__law_doubled P__law_doubled (liftSp K sp__law_doubled)) {a__law_row : Addr} {fd__law_row : FuncData} (n__law_row : Fn K mg "_law_row" s__law_row P__law_row a__law_row fd__law_row) (G__law_row : FnOk P w K mg base CX0 k a__law_row fd__law_row P__law_row (liftSp K sp__law_row)) {a__law_take : Addr} {fd__law_take : FuncData} (n__law_take : Fn K mg "_law_take" s__law_take P__law_take a__law_take fd__law_take) (G__law_take : FnOk P w K mg base CX0 k a__law_take fd__law_take P__law_take (liftSp K sp__law_take)) (m_range : mg "range" = none)
    (cdv : Value) (A : Around) (outer : List Env) (s : Shared) (H : Hp) (E : XK) (hr : Room k (A.deeper (envOfC "_law_wide" (defScope s__law_wide) s.heap.objs.size f cdv))) :
    DSs MT (cxOf CX0 P w K mg base N__law_wide "_law_wide" (defScope s__law_wide) f cdv A outer s H E).nox (defBody s__law_wide) (g__law_wide sp__law_doubled sp__law_row sp__law_take) :=
  (dss_cons (ds_set (i := 1) sc__law_wide.nd rfl (by first | exact Or.inl rfl | exact Or.inr rfl) (de_callN n__law_doubled G__law_doubled hr (by rfl) (da_cons (de_callN n__law_row G__law_row hr (by rfl) (da_cons (de_op od_add de_int (de_callN n__law_take G__law_take hr (by rfl) (da_cons (de_var 0) (da_cons de_int da_nil)))) da_nil)) (da_cons (de_ix (de_lst (da_cons de_int (da_cons de_int (da_cons de_int (da_cons de_int da_nil))))) (de_callN n__law_take G__law_take hr (by rfl) (da_cons (de_var 0) (da_cons de_int da_nil)))) da_nil)))) (dss_cons (ds_for PassesOwn.never rfl (di_range1 (by rfl) m_range (da_cons (de_callN n__law_take G__law_take hr (by rfl) (da_cons (de_var 0) (da_cons de_int da_nil))) da_nil)) (dp_name (i := 2) sc__law_wide.nd (by rfl) (by first | exact Or.inl rfl | exact Or.inr rfl)) (dss_one (ds_set (i := 1) sc__law_wide.nd rfl (by first | exact Or.inl rfl | exact Or.inr rfl) (de_tup (da_cons de_str (da_cons (de_tup (da_cons de_str da_nil)) (da_cons (de_var 1) da_nil))))))) (dss_cons (ds_if (dt_cmp (od_eq hr.u200) (de_callN n__law_take G__law_take hr (by rfl) (da_cons (de_var 0) (da_cons de_int da_nil))) de_int (nomark _)) (dss_one (ds_set (i := 1) sc__law_wide.nd rfl (by first | exact Or.inl rfl | exact Or.inr rfl) (de_tup (da_cons de_str (da_cons de_str (da_cons (de_tup (da_cons de_str (da_cons de_str da_nil))) (da_cons (de_var 1) da_nil))))))) dss_nil) (dss_one (ds_ret (de_var 1))))))
/-! ### _law_deepened -/
abbrev s__law_deepened : Stmt := topS 57
abbrev N__law_deepened : List Str := ["_law_pool_here", "_law_body", "_law_turn"]
abbrev P__law_deepened : List Str := ["_law_pool_here"]
theorem sc__law_deepened : FnScope N__law_deepened P__law_deepened (defScope s__law_deepened) := ⟨rfl, rfl, rfl, by decide +kernel, rfl, by decide +kernel, by decide +kernel⟩
def g__law_deepened (sp__law_take sp__law_row : DSp) : GS :=
  (gSeq (gSet (fTup (fCons (fC (.str "name")) (fCons (fC (.str "z")) fNil))) 1) (gSeq (gFor (fiRng1 (fCons (fOp rAddD (fC (.int 45)) (fCall sp__law_take (fCons (fVar 0) (fCons (fC (.int 12)) fNil)))) fNil)) (.nm 2) (gSet (fTup (fCons (fC (.str "pair")) (fCons (fTup (fCons (fC (.str "thing")) fNil)) (fCons (fVar 1) fNil)))) 1)) (gRet (fTup (fCons (fC (.str "give")) (fCons (fTup (fCons (fC (.str "take")) (fCons (fC (.str "z")) (fCons (fTup (fCons (fC (.str "mark")) (fCons (fC (.str "a")) fNil))) (fCons (fVar 1) fNil))))) (fCons (fCall sp__law_row (fCons (fOp rAddD (fC (.int 45)) (fCall sp__law_take (fCons (fVar 0) (fCons (fC (.int 12)) fNil)))) fNil)) fNil)))))))
theorem der__law_deepened {P : Program} {w : World} {K : PySem.W.Frag} {mg : Str → Option Value} {base : Heap} {k : Nat} {f : Addr} {sp__law_take sp__law_row : DSp} {a__law_take : Addr} {fd__law_take : FuncData} (n__law_take : Fn K mg "_law_take" s__law_take P__law_take a__law_take fd__law_take) (G__law_take : FnOk P w K mg base CX0 k a__law_take fd__law_take P__law_take (liftSp K sp__law_take)) {a__law_row : Addr} {fd__law_row : FuncData} (n__law_row : Fn K mg "_law_row" s__law_row P__law_row a__law_row fd__law_row) (G__law_row : FnOk P w K mg base CX0 k a__law_row fd__law_row P__law_row (liftSp K sp__law_row)) (m_range : mg "range" = none)
    (cdv : Value) (A : Around) (outer : List Env) (s : Shared) (H : Hp) (E : XK) (hr : Room k (A.deeper (envOfC "_law_deepened" (defScope s__law_deepened) s.heap.objs.size f cdv))) :
    DSs MT (cxOf CX0 P w K mg base N__law_deepened "_law_deepened" (defScope s__law_deepened) f cdv A outer s H E).nox (defBody s__law_deepened) (g__law_deepened sp__law_take sp__law_row) :=
  (dss_cons (ds_set (i := 1) sc__law_deepened.nd rfl (by first | exact Or.inl rfl | exact Or.inr rfl) (de_tup (da_cons de_str (da_cons de_str da_nil)))) (dss_cons (ds_for PassesOwn.never rfl (di_range1 (by rfl) m_range (da_cons (de_op od_add de_int (de_callN n__law_take G__law_take hr (by rfl) (da_cons (de_var 0) (da_cons de_int da_nil)))) da_nil)) (dp_name (i := 2) sc__law_deepened.nd (by rfl) (by first | exact Or.inl rfl | exact Or.inr rfl)) (dss_one (ds_set (i := 1) sc__law_deepened.nd rfl (by first | exact Or.inl rfl | exact Or.inr rfl) (de_tup (da_cons de_str (da_cons (de_tup (da_cons de_str da_nil)) (da_cons (de_var 1) da_nil))))))) (dss_one (ds_ret (de_tup (da_cons de_str (da_cons (de_tup (da_cons de_str (da_cons de_str (da_cons (de_tup (da_cons de_str (da_cons de_str da_nil))) (da_cons (de_var 1) da_nil))))) (da_cons (de_callN n__law_row G__law_row hr (by rfl) (da_cons (de_op od_add de_int (de_callN n__law_take G__law_take hr (by rfl) (da_cons (de_var 0) (da_cons de_int da_nil)))) da_nil)) da_nil))))))))
/-! ### _law_odd -/
abbrev s__law_odd : Stmt := topS 58
abbrev N__law_odd : List Str := ["_law_caught"]
abbrev P__law_odd : List Str := ["_law_caught"]
theorem sc__law_odd : FnScope N__law_odd P__law_odd (defScope s__law_odd) := ⟨rfl, rfl, rfl, by decide +kernel, rfl, by decide +kernel, by decide +kernel⟩
def g__law_odd (K : PySem.W.Frag) (C_NoFit C_NoKind C_NoLong C_NoMaking C_NoNumber C_NoStep C_NoText C_TooMany C_TooLong : Addr) : GS :=
  (gSeq (gIf (fTest (fCB (rIsXD K) (fCons (fVar 0) (fCons (fTup (fCons (fC (.ref C_NoFit)) (fCons (fC (.ref C_NoKind)) (fCons (fC (.ref C_NoLong)) (fCons (fC (.ref C_NoMaking)) (fCons (fC (.ref C_NoNumber)) (fCons (fC (.ref C_NoStep)) (fCons (fC (.ref C_NoText)) (fCons (fC (.ref C_TooMany)) fNil))))))))) fNil)))) (gRet (fC (.bl true))) gNext) (gRet (fOrV (fNotV (fCB (rIsXD K) (fCons (fVar 0) (fCons (fC (.ref C_TooLong)) fNil)))) (fNotV (fCB (rIsXD K) (fCons (fVar 0) (fCons (fC (.ty "ValueError")) fNil)))))))
theorem der__law_odd {P : Program} {w : World} {K : PySem.W.Frag} {mg : Str → Option Value} {base : Heap} {k : Nat} {f : Addr} {C_NoFit C_NoKind C_NoLong C_NoMaking C_NoNumber C_NoStep C_NoText C_TooMany C_TooLong : Addr} (m_isinstance : mg "isinstance" = none) (m_ValueError : mg "ValueError" = none) (k_NoFit : Cl K mg "NoFit" C_NoFit) (k_NoKind : Cl K mg "NoKind" C_NoKind) (k_NoLong : Cl K mg "NoLong" C_NoLong) (k_NoMaking : Cl K mg "NoMaking" C_NoMaking) (k_NoNumber : Cl K mg "NoNumber" C_NoNumber) (k_NoStep : Cl K mg "NoStep" C_NoStep) (k_NoText : Cl K mg "NoText" C_NoText) (k_TooMany : Cl K mg "TooMany" C_TooMany) (k_TooLong : Cl K mg "TooLong" C_TooLong)
    (cdv : Value) (A : Around) (outer : List Env) (s : Shared) (H : Hp) (E : XK) (hr : RoomC k (A.deeper (envOfC "_law_odd" (defScope s__law_odd) s.heap.objs.size f cdv))) :
    DSs MT (cxC CX0 P w K mg base N__law_odd "_law_odd" (defScope s__law_odd) f cdv A outer s H E).nox (defBody s__law_odd) (g__law_odd K C_NoFit C_NoKind C_NoLong C_NoMaking C_NoNumber C_NoStep C_NoText C_TooMany C_TooLong) :=
  (dss_cons (ds_if (dt_val (de_callB cd_isX (by rfl) m_isinstance bb_isinstance (da_cons (de_var 0) (da_cons (de_tup (da_cons (de_cst (cst_cls k_NoFit) (by rfl)) (da_cons (de_cst (cst_cls k_NoKind) (by rfl)) (da_cons (de_cst (cst_cls k_NoLong) (by rfl)) (da_cons (de_cst (cst_cls k_NoMaking) (by rfl)) (da_cons (de_cst (cst_cls k_NoNumber) (by rfl)) (da_cons (de_cst (cst_cls k_NoStep) (by rfl)) (da_cons (de_cst (cst_cls k_NoText) (by rfl)) (da_cons (de_cst (cst_cls k_TooMany) (by rfl)) da_nil))))))))) da_nil)))) (dss_one (ds_ret de_bl)) dss_nil) (dss_one (ds_ret (de_or (de_not (de_callB cd_isX (by rfl) m_isinstance bb_isinstance (da_cons (de_var 0) (da_cons (de_cst (cst_cls k_TooLong) (by rfl)) da_nil)))) (de_one (de_not (de_callB cd_isX (by rfl) m_isinstance bb_isinstance (da_cons (de_var 0) (da_cons (de_ty bb_ValueError m_ValueError (by rfl)) da_nil)))))))))
/-! ### _law_told -/
abbrev s__law_told : Stmt := topS 59
abbrev N__law_told : List Str := ["_law_program", "_law_picks", "_law_found", "_law_odd_here", "_law_caught"]
abbrev P__law_told : List Str := ["_law_program", "_law_picks"]
theorem sc__law_told : FnScope N__law_told P__law_told (defScope s__law_told) := ⟨rfl, rfl, rfl, by decide +kernel, rfl, by decide +kernel, by decide +kernel⟩
def g__law_told (sp_run sp__law_odd : DSp) (K : PySem.W.Frag) (C_KindError : Addr) : GS :=
  (gSeq (gSet (fC .non) 2) (gSeq (gSet (fC (.bl false)) 3) (gSeq (gTryHs K (.ref C_KindError) 4 (fun RX => (gSet (fCallX sp_run RX (fCons (fVar 0) (fCons (fVar 1) fNil))) 2)) (gSet (fCall sp__law_odd (fCons (fVar 4) fNil)) 3) RX0) (gRet (fLst (fCons (fVar 2) (fCons (fVar 3) fNil)))))))
theorem der__law_told {P : Program} {w : World} {K : PySem.W.Frag} {mg : Str → Option Value} {base : Heap} {k : Nat} {f : Addr} {sp_run sp__law_odd : DSp} {C_KindError : Addr} {a_run : Addr} {fd_run : FuncData} (n_run : FnD K mg "run" s_run P_run a_run fd_run) (G_run : FnOk P w K mg base (L2.CX P w) k a_run fd_run P_run (liftSp K sp_run)) {a__law_odd : Addr} {fd__law_odd : FuncData} (n__law_odd : Fn K mg "_law_odd" s__law_odd P__law_odd a__law_odd fd__law_odd) (G__law_odd : FnC P w K mg base CX0 k a__law_odd fd__law_odd P__law_odd (liftSp K sp__law_odd)) (k_KindError : Cl K mg "KindError" C_KindError)
    (cdv : Value) (A : Around) (outer : List Env) (s : Shared) (H : Hp) (E : XK) (hr : Room k (A.deeper (envOfC "_law_told" (defScope s__law_told) s.heap.objs.size f cdv))) :
    DSs MT (cxOf CX0 P w K mg base N__law_told "_law_told" (defScope s__law_told) f cdv A outer s H E).nox (defBody s__law_told) (g__law_told sp_run sp__law_odd K C_KindError) :=
  (dss_cons (ds_set (i := 2) sc__law_told.nd rfl (by first | exact Or.inl rfl | exact Or.inr rfl) de_non) (dss_cons (ds_set (i := 3) sc__law_told.nd rfl (by first | exact Or.inl rfl | exact Or.inr rfl) de_bl) (dss_cons (ds_try_has (i := 4) sc__law_told.nd rfl rfl ⟨rfl, by decide, .inl k_KindError.g⟩ takes0 outs0 (fun RX W pn xe tk hp => (dss_one (ds_set (i := 2) sc__law_told.nd rfl (by first | exact Or.inl rfl | exact Or.inr rfl) (de_callXd n_run G_run hr tk (by rfl) (da_cons (de_var 0) (da_cons (de_var 1) da_nil)))))) (fun a pn => (dss_one (ds_set (i := 3) sc__law_told.nd rfl (by first | exact Or.inl rfl | exact Or.inr rfl) (de_callC n__law_odd G__law_odd (roomC_mark hr _) (by rfl) (da_cons (de_var 4) da_nil)))))) (dss_one (ds_ret (de_lst (da_cons (de_var 2) (da_cons (de_var 3) da_nil))))))))
/-! ### law -/
abbrev s_law : Stmt := topS 60
abbrev N_law : List Str := ["_law_script", "_law_k", "_law_pool_here", "_law_ways", "_law_way", "_law_program", "_law_picks", "_law_handed", "_law_due", "_law_some", "_law_turn"]
abbrev P_law : List Str := ["_law_script"]
theorem sc_law : FnScope N_law P_law (defScope s_law) := ⟨rfl, rfl, rfl, by decide +kernel, rfl, by decide +kernel, by decide +kernel⟩
def g_law (sp__law_pool sp__law_tower sp__law_wide sp__law_deepened sp__law_halves sp__law_take sp__law_run sp__law_bare sp__law_told : DSp) (K : PySem.W.Frag) (a__law_tower a__law_wide a__law_deepened a__law_halves : Addr) : GS :=
  (gSeq (gFor (fiRng1 (fCons (fCB rMax2 (fCons (fC (.int 1)) (fCons (fCB rMin2 (fCons (fCB rLenD (fCons (fVar 0) fNil)) (fCons (fC (.int 3)) fNil))) fNil))) fNil)) (.nm 1) (gSeq (gSet (fCall sp__law_pool (fCons (fVar 0) (fCons (fVar 1) fNil))) 2) (gSeq (gSet (fLst (fCons (fC (.ref a__law_tower)) (fCons (fC (.ref a__law_wide)) (fCons (fC (.ref a__law_deepened)) (fCons (fC (.ref a__law_halves)) fNil))))) 3) (gSeq (gSet (fOp rIxD (fVar 3) (fCall sp__law_take (fCons (fVar 2) (fCons (fOp rAddD (fC (.int 3)) (fCB rInt1 (fCons (fOp (rEqD false) (fVar 1) (fC (.int 0))) fNil))) fNil)))) 4) (gSeq (gSet (fCallE (sOr (sOne a__law_tower sp__law_tower) (sOr (sOne a__law_wide sp__law_wide) (sOr (sOne a__law_deepened sp__law_deepened) (sOne a__law_halves sp__law_halves)))) (fVar 4) (fCons (fVar 2) fNil)) 5) (gSeq (gIf (fAnd (fTest (fOp (rFnEq K true) (fVar 4) (fC (.ref a__law_halves)))) (fTest (fOp (rEqD false) (fCall sp__law_take (fCons (fVar 2) (fCons (fC (.int 3)) fNil))) (fC (.int 0))))) (gSeq (gSet (fLst (fCons (fTup (fCons (fC (.str "first")) (fCons (fTup (fCons (fC (.str "pair")) (fCons (fTup (fCons (fC (.str "name")) (fCons (fC (.str "p")) fNil))) (fCons (fVar 5) fNil)))) fNil))) (fCons (fTup (fCons (fC (.str "second")) (fCons (fTup (fCons (fC (.str "pair")) (fCons (fVar 5) (fCons (fTup (fCons (fC (.str "name")) (fCons (fC (.str "p")) fNil))) fNil)))) fNil))) fNil))) 9) (gSet (fOp rIxD (fVar 9) (fCall sp__law_take (fCons (fVar 2) (fCons (fC (.int 2)) fNil)))) 5)) gNext) (gSeq (gSet (fLc (fiRng1 (fCons (fCall sp__law_take (fCons (fVar 2) (fCons (fC (.int 4)) fNil))) fNil)) (.nm 10) fYes (fCall sp__law_take (fCons (fVar 2) (fCons (fC (.int 1000)) fNil))) [10]) 6) (gSeq (gSet (fCB rList1 (fCons (fVar 6) fNil)) 7) (gSeq (gSet (fCall sp__law_run (fCons (fCall sp__law_bare (fCons (fVar 5) (fCons (fLst fNil) fNil))) (fCons (fVar 6) fNil))) 8) (gIf (fOr (fTest (fOp (rEqD true) (fCall sp__law_told (fCons (fVar 5) (fCons (fVar 7) fNil))) (fLst (fCons (fVar 8) (fCons (fC (.bl false)) fNil))))) (fTest (fOp (rEqD true) (fVar 7) (fVar 6)))) (gRet (fC (.bl false))) gNext)))))))))) (gRet (fC (.bl true))))
theorem der_law {P : Program} {w : World} {K : PySem.W.Frag} {mg : Str → Option Value} {base : Heap} {k : Nat} {f : Addr} {sp__law_pool sp__law_tower sp__law_wide sp__law_deepened sp__law_halves sp__law_take sp__law_run sp__law_bare sp__law_told : DSp} {a__law_pool : Addr} {fd__law_pool : FuncData} (n__law_pool : Fn K mg "_law_pool" s__law_pool P__law_pool a__law_pool fd__law_pool) (G__law_pool : FnOk P w K mg base CX0 k a__law_pool fd__law_pool P__law_pool (liftSp K sp__law_pool)) {a__law_tower : Addr} {fd__law_tower : FuncData} (n__law_tower : Fn K mg "_law_tower" s__law_tower P__law_tower a__law_tower fd__law_tower) (G__law_tower : FnOk P w K mg base CX0 k a__law_tower fd__law_tower P__law_tower (liftSp K sp__law_tower)) {a__law_wide : Addr} {fd__law_wide : FuncData} (n__law_wide : Fn K mg "_law_wide" s__law_wide P__law_wide a__law_wide fd__law_wide) (G__law_wide : FnOk P w K mg base CX0 k a__law_wide fd__law_wide P__law_wide (liftSp K sp__law_wide)) {a__law_deepened : Addr} {fd__law_deepened : FuncData} (n__law_deepened : Fn K mg "_law_deepened" s__law_deepened P__law_deepened a__law_deepened fd__law_deepened) (G__law_deepened : FnOk P w K mg base CX0 k a__law_deepened fd__law_deepened P__law_deepened (liftSp K sp__law_deepened)) {a__law_halves : Addr} {fd__law_halves : FuncData} (n__law_halves : Fn K mg "_law_halves" s__law_halves P__law_halves a__law_halves fd__law_halves) (G__law_halves : FnOk P w K mg base CX0 k a__law_halves fd__law_halves P__law_halves (liftSp K sp__law_halves)) {a__law_take : Addr} {fd__law_take : FuncData} (n__law_take : Fn K mg "_law_take" s__law_take P__law_take a__law_take fd__law_take) (G__law_take : FnOk P w K mg base CX0 k a__law_take fd__law_take P__law_take (liftSp K sp__law_take)) {a__law_run : Addr} {fd__law_run : FuncData} (n__law_run : Fn K mg "_law_run" s__law_run P__law_run a__law_run fd__law_run) (G__law_run : FnOk P w K mg base CX0 k a__law_run fd__law_run P__law_run (liftSp K sp__law_run)) {a__law_bare : Addr} {fd__law_bare : FuncData} (n__law_bare : Fn K mg "_law_bare" s__law_bare P__law_bare a__law_bare fd__law_bare) (G__law_bare : FnOk P w K mg base CX0 k a__law_bare fd__law_bare P__law_bare (liftSp K sp__law_bare)) {a__law_told : Addr} {fd__law_told : FuncData} (n__law_told : Fn K mg "_law_told" s__law_told P__law_told a__law_told fd__law_told) (G__law_told : FnOk P w K mg base CX0 k a__law_told fd__law_told P__law_told (liftSp K sp__law_told)) (m_range : mg "range" = none) (m_len : mg "len" = none) (m_min : mg "min" = none) (m_max : mg "max" = none) (m_int : mg "int" = none) (m_list : mg "list" = none)
    (cdv : Value) (A : Around) (outer : List Env) (s : Shared) (H : Hp) (E : XK) (hr : Room k (A.deeper (envOfC "law" (defScope s_law) s.heap.objs.size f cdv))) :
    DSs MT (cxOf CX0 P w K mg base N_law "law" (defScope s_law) f cdv A outer s H E).nox (defBody s_law) (g_law sp__law_pool sp__law_tower sp__law_wide sp__law_deepened sp__law_halves sp__law_take sp__law_run sp__law_bare sp__law_told K a__law_tower a__law_wide a__law_deepened a__law_halves) :=
  (dss_cons (ds_for PassesOwn.never rfl (di_range1 (by rfl) m_range (da_cons (de_callB (cd_max2 (by rfl)) (by rfl) m_max bb_max (da_cons de_int (da_cons (de_callB (cd_min2 (by rfl)) (by rfl) m_min bb_min (da_cons (de_callB cd_len (by rfl) m_len bb_len (da_cons (de_var 0) da_nil)) (da_cons de_int da_nil))) da_nil))) da_nil)) (dp_name (i := 1) sc_law.nd (by rfl) (by first | exact Or.inl rfl | exact Or.inr rfl)) (dss_cons (ds_set (i := 2) sc_law.nd rfl (by first | exact Or.inl rfl | exact Or.inr rfl) (de_callN n__law_pool G__law_pool hr (by rfl) (da_cons (de_var 0) (da_cons (de_var 1) da_nil)))) (dss_cons (ds_set (i := 3) sc_law.nd rfl (by first | exact Or.inl rfl | exact Or.inr rfl) (de_lst (da_cons (de_fnv n__law_tower (by rfl)) (da_cons (de_fnv n__law_wide (by rfl)) (da_cons (de_fnv n__law_deepened (by rfl)) (da_cons (de_fnv n__law_halves (by rfl)) da_nil)))))) (dss_cons (ds_set (i := 4) sc_law.nd rfl (by first | exact Or.inl rfl | exact Or.inr rfl) (de_ix (de_var 3) (de_callN n__law_take G__law_take hr (by rfl) (da_cons (de_var 2) (da_cons (de_op od_add de_int (de_callTy cd_int1 (by rfl) m_int bb_int (da_cons (de_cmp (od_eq hr.u200) (de_var 1) de_int (nomark _)) da_nil))) da_nil))))) (dss_cons (ds_set (i := 5) sc_law.nd rfl (by first | exact Or.inl rfl | exact Or.inr rfl) (de_callE (held_or (held_one n__law_tower G__law_tower) (held_or (held_one n__law_wide G__law_wide) (held_or (held_one n__law_deepened G__law_deepened) (held_one n__law_halves G__law_halves)))) hr (de_var 4) (da_cons (de_var 2) da_nil))) (dss_cons (ds_if (dt_of (dw_and (dt_cmp (od_fne hr.u200) (de_var 4) (de_fnv n__law_halves (by rfl)) (nomark _)) (dw_and1 (dt_cmp (od_eq hr.u200) (de_callN n__law_take G__law_take hr (by rfl) (da_cons (de_var 2) (da_cons de_int da_nil))) de_int (nomark _))))) (dss_cons (ds_set (i := 9) sc_law.nd rfl (by first | exact Or.inl rfl | exact Or.inr rfl) (de_lst (da_cons (de_tup (da_cons de_str (da_cons (de_tup (da_cons de_str (da_cons (de_tup (da_cons de_str (da_cons de_str da_nil))) (da_cons (de_var 5) da_nil)))) da_nil))) (da_cons (de_tup (da_cons de_str (da_cons (de_tup (da_cons de_str (da_cons (de_var 5) (da_cons (de_tup (da_cons de_str (da_cons de_str da_nil))) da_nil)))) da_nil))) da_nil)))) (dss_one (ds_set (i := 5) sc_law.nd rfl (by first | exact Or.inl rfl | exact Or.inr rfl) (de_ix (de_var 9) (de_callN n__law_take G__law_take hr (by rfl) (da_cons (de_var 2) (da_cons de_int da_nil))))))) dss_nil) (dss_cons (ds_setLc (i := 6) rfl sc_law.nd rfl rfl (sw_true rfl rfl rfl (by decide +kernel)) (di_range1 (by rfl) m_range (da_cons (de_callN n__law_take G__law_take hr (by rfl) (da_cons (de_var 2) (da_cons de_int da_nil))) da_nil)) (blkOk_by (own := [("_law_turn", 10)]) (N := N_law) (sc := defScope s_law) (by decide +kernel)) (fun _ _ _ _ _ => (dp_name (i := 10) sc_law.nd (by rfl) (by first | exact Or.inl rfl | exact Or.inr rfl))) (fun _ _ _ _ _ => dts_nil) (fun _ _ _ _ _ => (de_callN n__law_take G__law_take hr (by rfl) (da_cons (de_var 2) (da_cons de_int da_nil))))) (dss_cons (ds_set (i := 7) sc_law.nd rfl (by first | exact Or.inl rfl | exact Or.inr rfl) (de_callTy cd_list1 (by rfl) m_list bb_list (da_cons (de_var 6) da_nil))) (dss_cons (ds_set (i := 8) sc_law.nd rfl (by first | exact Or.inl rfl | exact Or.inr rfl) (de_callN n__law_run G__law_run hr (by rfl) (da_cons (de_callN n__law_bare G__law_bare hr (by rfl) (da_cons (de_var 5) (da_cons (de_lst da_nil) da_nil))) (da_cons (de_var 6) da_nil)))) (dss_one (ds_if (dt_of (dw_or (dt_cmp (od_ne hr.u200) (de_callN n__law_told G__law_told hr (by rfl) (da_cons (de_var 5) (da_cons (de_var 7) da_nil))) (de_lst (da_cons (de_var 8) (da_cons de_bl da_nil))) (nomark _)) (dw_or1 (dt_cmp (od_ne hr.u200) (de_var 7) (de_var 6) (nomark _))))) (dss_one (ds_ret de_bl)) dss_nil))))))))))) (dss_one (ds_ret de_bl)))
/-! ### all facts of the text -/
structure Tx (K : PySem.W.Frag) (mg : Str → Option Value) where
  a_inner : Addr
  fd_inner : FuncData
  n_inner : Fn K mg "inner" s_inner P_inner a_inner fd_inner
  a_parts_of : Addr
  fd_parts_of : FuncData
  n_parts_of : Fn K mg "parts_of" s_parts_of P_parts_of a_parts_of fd_parts_of
  a_deep_of : Addr
  fd_deep_of : FuncData
  n_deep_of : Fn K mg "deep_of" s_deep_of P_deep_of a_deep_of fd_deep_of
  a_part_at : Addr
  fd_part_at : FuncData
  n_part_at : Fn K mg "part_at" s_part_at P_part_at a_part_at fd_part_at
  a_with_inner : Addr
  fd_with_inner : FuncData
  n_with_inner : Fn K mg "with_inner" s_with_inner P_with_inner a_with_inner fd_with_inner
  a_with_part : Addr
  fd_with_part : FuncData
  n_with_part : Fn K mg "with_part" s_with_part P_with_part a_with_part fd_with_part
  a_tidied_within : Addr
  fd_tidied_within : FuncData
  n_tidied_within : Fn K mg "tidied_within" s_tidied_within P_tidied_within a_tidied_within fd_tidied_within
  a_tidied : Addr
  fd_tidied : FuncData
  n_tidied : Fn K mg "tidied" s_tidied P_tidied a_tidied fd_tidied
  a_can_step : Addr
  fd_can_step : FuncData
  n_can_step : Fn K mg "can_step" s_can_step P_can_step a_can_step fd_can_step
  a_put_places : Addr
  fd_put_places : FuncData
  n_put_places : Fn K mg "put_places" s_put_places P_put_places a_put_places fd_put_places
  a_step_places : Addr
  fd_step_places : FuncData
  n_step_places : Fn K mg "step_places" s_step_places P_step_places a_step_places fd_step_places
  a_name_count : Addr
  fd_name_count : FuncData
  n_name_count : Fn K mg "name_count" s_name_count P_name_count a_name_count fd_name_count
  a_with_given : Addr
  fd_with_given : FuncData
  n_with_given : Fn K mg "with_given" s_with_given P_with_given a_with_given fd_with_given
  a_what_comes : Addr
  fd_what_comes : FuncData
  n_what_comes : Fn K mg "what_comes" s_what_comes P_what_comes a_what_comes fd_what_comes
  a_parts_that_come : Addr
  fd_parts_that_come : FuncData
  n_parts_that_come : Fn K mg "parts_that_come" s_parts_that_come P_parts_that_come a_parts_that_come fd_parts_that_come
  a_done_at : Addr
  fd_done_at : FuncData
  n_done_at : Fn K mg "done_at" s_done_at P_done_at a_done_at fd_done_at
  a_next_place : Addr
  fd_next_place : FuncData
  n_next_place : Fn K mg "next_place" s_next_place P_next_place a_next_place fd_next_place
  a_run : Addr
  fd_run : FuncData
  n_run : FnD K mg "run" s_run P_run a_run fd_run
  a__law_pool : Addr
  fd__law_pool : FuncData
  n__law_pool : Fn K mg "_law_pool" s__law_pool P__law_pool a__law_pool fd__law_pool
  a__law_take : Addr
  fd__law_take : FuncData
  n__law_take : Fn K mg "_law_take" s__law_take P__law_take a__law_take fd__law_take
  a__law_inner : Addr
  fd__law_inner : FuncData
  n__law_inner : Fn K mg "_law_inner" s__law_inner P__law_inner a__law_inner fd__law_inner
  a__law_can : Addr
  fd__law_can : FuncData
  n__law_can : Fn K mg "_law_can" s__law_can P__law_can a__law_can fd__law_can
  a__law_places : Addr
  fd__law_places : FuncData
  n__law_places : Fn K mg "_law_places" s__law_places P__law_places a__law_places fd__law_places
  a__law_bare : Addr
  fd__law_bare : FuncData
  n__law_bare : Fn K mg "_law_bare" s__law_bare P__law_bare a__law_bare fd__law_bare
  a__law_dressed : Addr
  fd__law_dressed : FuncData
  n__law_dressed : Fn K mg "_law_dressed" s__law_dressed P__law_dressed a__law_dressed fd__law_dressed
  a__law_moved : Addr
  fd__law_moved : FuncData
  n__law_moved : Fn K mg "_law_moved" s__law_moved P__law_moved a__law_moved fd__law_moved
  a__law_put : Addr
  fd__law_put : FuncData
  n__law_put : Fn K mg "_law_put" s__law_put P__law_put a__law_put fd__law_put
  a__law_step : Addr
  fd__law_step : FuncData
  n__law_step : Fn K mg "_law_step" s__law_step P__law_step a__law_step fd__law_step
  a__law_parts : Addr
  fd__law_parts : FuncData
  n__law_parts : Fn K mg "_law_parts" s__law_parts P__law_parts a__law_parts fd__law_parts
  a__law_high : Addr
  fd__law_high : FuncData
  n__law_high : Fn K mg "_law_high" s__law_high P__law_high a__law_high fd__law_high
  a__law_run : Addr
  fd__law_run : FuncData
  n__law_run : Fn K mg "_law_run" s__law_run P__law_run a__law_run fd__law_run
  a__law_level : Addr
  fd__law_level : FuncData
  n__law_level : Fn K mg "_law_level" s__law_level P__law_level a__law_level fd__law_level
  a__law_often : Addr
  fd__law_often : FuncData
  n__law_often : Fn K mg "_law_often" s__law_often P__law_often a__law_often fd__law_often
  a__law_tower : Addr
  fd__law_tower : FuncData
  n__law_tower : Fn K mg "_law_tower" s__law_tower P__law_tower a__law_tower fd__law_tower
  a__law_doubled : Addr
  fd__law_doubled : FuncData
  n__law_doubled : Fn K mg "_law_doubled" s__law_doubled P__law_doubled a__law_doubled fd__law_doubled
  a__law_halves : Addr
  fd__law_halves : FuncData
  n__law_halves : Fn K mg "_law_halves" s__law_halves P__law_halves a__law_halves fd__law_halves
  a__law_row : Addr
  fd__law_row : FuncData
  n__law_row : Fn K mg "_law_row" s__law_row P__law_row a__law_row fd__law_row
  a__law_wide : Addr
  fd__law_wide : FuncData
  n__law_wide : Fn K mg "_law_wide" s__law_wide P__law_wide a__law_wide fd__law_wide
  a__law_deepened : Addr
  fd__law_deepened : FuncData
  n__law_deepened : Fn K mg "_law_deepened" s__law_deepened P__law_deepened a__law_deepened fd__law_deepened
  a__law_odd : Addr
  fd__law_odd : FuncData
  n__law_odd : Fn K mg "_law_odd" s__law_odd P__law_odd a__law_odd fd__law_odd
  a__law_told : Addr
  fd__law_told : FuncData
  n__law_told : Fn K mg "_law_told" s__law_told P__law_told a__law_told fd__law_told
  a_law : Addr
  fd_law : FuncData
  n_law : Fn K mg "law" s_law P_law a_law fd_law
  v__law_tower : PySem.W.isFn K (.ref a__law_tower) = true
  v__law_wide : PySem.W.isFn K (.ref a__law_wide) = true
  v__law_deepened : PySem.W.isFn K (.ref a__law_deepened) = true
  v__law_halves : PySem.W.isFn K (.ref a__law_halves) = true
  m_list : mg "list" = none
  m_sum : mg "sum" = none
  m_max : mg "max" = none
  m_len : mg "len" = none
  m_tuple : mg "tuple" = none
  m_reversed : mg "reversed" = none
  m_range : mg "range" = none
  m_str : mg "str" = none
  m_enumerate : mg "enumerate" = none
  m_int : mg "int" = none
  m_isinstance : mg "isinstance" = none
  m_ValueError : mg "ValueError" = none
  m_min : mg "min" = none
  c_MOST_STEPS : Cst K mg "MOST_STEPS" (.int 200)
  c_MOST_PARTS : Cst K mg "MOST_PARTS" (.int 1500)
  c_MOST_DEEP : Cst K mg "MOST_DEEP" (.int 100)
  C_TooLong : Addr
  C_NoFit : Addr
  C_NoKind : Addr
  C_NoLong : Addr
  C_NoMaking : Addr
  C_NoNumber : Addr
  C_NoStep : Addr
  C_NoText : Addr
  C_TooMany : Addr
  C_KindError : Addr
  x_TooLong : ExN K mg "TooLong" C_TooLong
  k_NoFit : Cl K mg "NoFit" C_NoFit
  k_NoKind : Cl K mg "NoKind" C_NoKind
  k_NoLong : Cl K mg "NoLong" C_NoLong
  k_NoMaking : Cl K mg "NoMaking" C_NoMaking
  k_NoNumber : Cl K mg "NoNumber" C_NoNumber
  k_NoStep : Cl K mg "NoStep" C_NoStep
  k_NoText : Cl K mg "NoText" C_NoText
  k_TooMany : Cl K mg "TooMany" C_TooMany
  k_TooLong : Cl K mg "TooLong" C_TooLong
  k_KindError : Cl K mg "KindError" C_KindError
  ec_TooLong : ExcC K C_TooLong
  sb_TooLong_KindError : PySem.W.subIn K (.ref C_TooLong) (.ref C_KindError) = some true
  sb_TooLong_ValueError : PySem.W.subIn K (.ref C_TooLong) (.type "ValueError") = some true
  sb_TooLong_NoFit : PySem.W.subIn K (.ref C_TooLong) (.ref C_NoFit) = some false
  sb_TooLong_NoKind : PySem.W.subIn K (.ref C_TooLong) (.ref C_NoKind) = some false
  sb_TooLong_NoLong : PySem.W.subIn K (.ref C_TooLong) (.ref C_NoLong) = some false
  sb_TooLong_NoMaking : PySem.W.subIn K (.ref C_TooLong) (.ref C_NoMaking) = some false
  sb_TooLong_NoNumber : PySem.W.subIn K (.ref C_TooLong) (.ref C_NoNumber) = some false
  sb_TooLong_NoStep : PySem.W.subIn K (.ref C_TooLong) (.ref C_NoStep) = some false
  sb_TooLong_NoText : PySem.W.subIn K (.ref C_TooLong) (.ref C_NoText) = some false
  sb_TooLong_TooMany : PySem.W.subIn K (.ref C_TooLong) (.ref C_TooMany) = some false
section
variable {P : Program} {w : World} {K : PySem.W.Frag} {mg : Str → Option Value} {base : Heap}
abbrev FO_inner (P : Program) (w : World) (base : Heap) (T : Tx K mg) (k : Nat) (sp : DSp) : Prop := FnOk P w K mg base CX0 k T.a_inner T.fd_inner P_inner (liftSp K sp)
abbrev FO_parts_of (P : Program) (w : World) (base : Heap) (T : Tx K mg) (k : Nat) (sp : DSp) : Prop := FnOk P w K mg base CX0 k T.a_parts_of T.fd_parts_of P_parts_of (liftSp K sp)
abbrev FO_deep_of (P : Program) (w : World) (base : Heap) (T : Tx K mg) (k : Nat) (sp : DSp) : Prop := FnOk P w K mg base CX0 k T.a_deep_of T.fd_deep_of P_deep_of (liftSp K sp)
abbrev FO_part_at (P : Program) (w : World) (base : Heap) (T : Tx K mg) (k : Nat) (sp : DSp) : Prop := FnOk P w K mg base CX0 k T.a_part_at T.fd_part_at P_part_at (liftSp K sp)
abbrev FO_with_inner (P : Program) (w : World) (base : Heap) (T : Tx K mg) (k : Nat) (sp : DSp) : Prop := FnOk P w K mg base CX0 k T.a_with_inner T.fd_with_inner P_with_inner (liftSp K sp)
abbrev FO_with_part (P : Program) (w : World) (base : Heap) (T : Tx K mg) (k : Nat) (sp : DSp) : Prop := FnOk P w K mg base CX0 k T.a_with_part T.fd_with_part P_with_part (liftSp K sp)
abbrev FO_tidied_within (P : Program) (w : World) (base : Heap) (T : Tx K mg) (k : Nat) (sp : DSp) : Prop := FnOk P w K mg base CX0 k T.a_tidied_within T.fd_tidied_within P_tidied_within (liftSp K sp)
abbrev FO_tidied (P : Program) (w : World) (base : Heap) (T : Tx K mg) (k : Nat) (sp : DSp) : Prop := FnOk P w K mg base CX0 k T.a_tidied T.fd_tidied P_tidied (liftSp K sp)
abbrev FO_can_step (P : Program) (w : World) (base : Heap) (T : Tx K mg) (k : Nat) (sp : DSp) : Prop := FnOk P w K mg base CX0 k T.a_can_step T.fd_can_step P_can_step (liftSp K sp)
abbrev FO_put_places (P : Program) (w : World) (base : Heap) (T : Tx K mg) (k : Nat) (sp : DSp) : Prop := FnOk P w K mg base CX0 k T.a_put_places T.fd_put_places P_put_places (liftSp K sp)
abbrev FO_step_places (P : Program) (w : World) (base : Heap) (T : Tx K mg) (k : Nat) (sp : DSp) : Prop := FnOk P w K mg base CX0 k T.a_step_places T.fd_step_places P_step_places (liftSp K sp)
abbrev FO_name_count (P : Program) (w : World) (base : Heap) (T : Tx K mg) (k : Nat) (sp : DSp) : Prop := FnOk P w K mg base CX0 k T.a_name_count T.fd_name_count P_name_count (liftSp K sp)
abbrev FO_with_given (P : Program) (w : World) (base : Heap) (T : Tx K mg) (k : Nat) (sp : DSp) : Prop := FnOk P w K mg base CX0 k T.a_with_given T.fd_with_given P_with_given (liftSp K sp)
abbrev FO_what_comes (P : Program) (w : World) (base : Heap) (T : Tx K mg) (k : Nat) (sp : DSp) : Prop := FnOk P w K mg base CX0 k T.a_what_comes T.fd_what_comes P_what_comes (liftSp K sp)
abbrev FO_parts_that_come (P : Program) (w : World) (base : Heap) (T : Tx K mg) (k : Nat) (sp : DSp) : Prop := FnOk P w K mg base CX0 k T.a_parts_that_come T.fd_parts_that_come P_parts_that_come (liftSp K sp)
abbrev FO_done_at (P : Program) (w : World) (base : Heap) (T : Tx K mg) (k : Nat) (sp : DSp) : Prop := FnOk P w K mg base CX0 k T.a_done_at T.fd_done_at P_done_at (liftSp K sp)
abbrev FO_next_place (P : Program) (w : World) (base : Heap) (T : Tx K mg) (k : Nat) (sp : DSp) : Prop := FnOk P w K mg base CX0 k T.a_next_place T.fd_next_place P_next_place (liftSp K sp)
abbrev FO_run (P : Program) (w : World) (base : Heap) (T : Tx K mg) (k : Nat) (sp : DSp) : Prop := FnOk P w K mg base (L2.CX P w) k T.a_run T.fd_run P_run (liftSp K sp)
abbrev FO__law_pool (P : Program) (w : World) (base : Heap) (T : Tx K mg) (k : Nat) (sp : DSp) : Prop := FnOk P w K mg base CX0 k T.a__law_pool T.fd__law_pool P__law_pool (liftSp K sp)
abbrev FO__law_take (P : Program) (w : World) (base : Heap) (T : Tx K mg) (k : Nat) (sp : DSp) : Prop := FnOk P w K mg base CX0 k T.a__law_take T.fd__law_take P__law_take (liftSp K sp)
abbrev FO__law_inner (P : Program) (w : World) (base : Heap) (T : Tx K mg) (k : Nat) (sp : DSp) : Prop := FnOk P w K mg base CX0 k T.a__law_inner T.fd__law_inner P__law_inner (liftSp K sp)
abbrev FO__law_can (P : Program) (w : World) (base : Heap) (T : Tx K mg) (k : Nat) (sp : DSp) : Prop := FnOk P w K mg base CX0 k T.a__law_can T.fd__law_can P__law_can (liftSp K sp)
abbrev FO__law_places (P : Program) (w : World) (base : Heap) (T : Tx K mg) (k : Nat) (sp : DSp) : Prop := FnOk P w K mg base CX0 k T.a__law_places T.fd__law_places P__law_places (liftSp K sp)
abbrev FO__law_bare (P : Program) (w : World) (base : Heap) (T : Tx K mg) (k : Nat) (sp : DSp) : Prop := FnOk P w K mg base CX0 k T.a__law_bare T.fd__law_bare P__law_bare (liftSp K sp)
abbrev FO__law_dressed (P : Program) (w : World) (base : Heap) (T : Tx K mg) (k : Nat) (sp : DSp) : Prop := FnOk P w K mg base CX0 k T.a__law_dressed T.fd__law_dressed P__law_dressed (liftSp K sp)
abbrev FO__law_moved (P : Program) (w : World) (base : Heap) (T : Tx K mg) (k : Nat) (sp : DSp) : Prop := FnOk P w K mg base CX0 k T.a__law_moved T.fd__law_moved P__law_moved (liftSp K sp)
abbrev FO__law_put (P : Program) (w : World) (base : Heap) (T : Tx K mg) (k : Nat) (sp : DSp) : Prop := FnOk P w K mg base CX0 k T.a__law_put T.fd__law_put P__law_put (liftSp K sp)
abbrev FO__law_step (P : Program) (w : World) (base : Heap) (T : Tx K mg) (k : Nat) (sp : DSp) : Prop := FnOk P w K mg base CX0 k T.a__law_step T.fd__law_step P__law_step (liftSp K sp)
abbrev FO__law_parts (P : Program) (w : World) (base : Heap) (T : Tx K mg) (k : Nat) (sp : DSp) : Prop := FnOk P w K mg base CX0 k T.a__law_parts T.fd__law_parts P__law_parts (liftSp K sp)
abbrev FO__law_high (P : Program) (w : World) (base : Heap) (T : Tx K mg) (k : Nat) (sp : DSp) : Prop := FnOk P w K mg base CX0 k T.a__law_high T.fd__law_high P__law_high (liftSp K sp)
abbrev FO__law_run (P : Program) (w : World) (base : Heap) (T : Tx K mg) (k : Nat) (sp : DSp) : Prop := FnOk P w K mg base CX0 k T.a__law_run T.fd__law_run P__law_run (liftSp K sp)
abbrev FO__law_level (P : Program) (w : World) (base : Heap) (T : Tx K mg) (k : Nat) (sp : DSp) : Prop := FnOk P w K mg base CX0 k T.a__law_level T.fd__law_level P__law_level (liftSp K sp)
abbrev FO__law_often (P : Program) (w : World) (base : Heap) (T : Tx K mg) (k : Nat) (sp : DSp) : Prop := FnOk P w K mg base CX0 k T.a__law_often T.fd__law_often P__law_often (liftSp K sp)
abbrev FO__law_tower (P : Program) (w : World) (base : Heap) (T : Tx K mg) (k : Nat) (sp : DSp) : Prop := FnOk P w K mg base CX0 k T.a__law_tower T.fd__law_tower P__law_tower (liftSp K sp)
abbrev FO__law_doubled (P : Program) (w : World) (base : Heap) (T : Tx K mg) (k : Nat) (sp : DSp) : Prop := FnOk P w K mg base CX0 k T.a__law_doubled T.fd__law_doubled P__law_doubled (liftSp K sp)
abbrev FO__law_halves (P : Program) (w : World) (base : Heap) (T : Tx K mg) (k : Nat) (sp : DSp) : Prop := FnOk P w K mg base CX0 k T.a__law_halves T.fd__law_halves P__law_halves (liftSp K sp)
abbrev FO__law_row (P : Program) (w : World) (base : Heap) (T : Tx K mg) (k : Nat) (sp : DSp) : Prop := FnOk P w K mg base CX0 k T.a__law_row T.fd__law_row P__law_row (liftSp K sp)
abbrev FO__law_wide (P : Program) (w : World) (base : Heap) (T : Tx K mg) (k : Nat) (sp : DSp) : Prop := FnOk P w K mg base CX0 k T.a__law_wide T.fd__law_wide P__law_wide (liftSp K sp)
abbrev FO__law_deepened (P : Program) (w : World) (base : Heap) (T : Tx K mg) (k : Nat) (sp : DSp) : Prop := FnOk P w K mg base CX0 k T.a__law_deepened T.fd__law_deepened P__law_deepened (liftSp K sp)
abbrev FO__law_odd (P : Program) (w : World) (base : Heap) (T : Tx K mg) (k : Nat) (sp : DSp) : Prop := FnC P w K mg base CX0 k T.a__law_odd T.fd__law_odd P__law_odd (liftSp K sp)
abbrev FO__law_told (P : Program) (w : World) (base : Heap) (T : Tx K mg) (k : Nat) (sp : DSp) : Prop := FnOk P w K mg base CX0 k T.a__law_told T.fd__law_told P__law_told (liftSp K sp)
abbrev FO_law (P : Program) (w : World) (base : Heap) (T : Tx K mg) (k : Nat) (sp : DSp) : Prop := FnOk P w K mg base CX0 k T.a_law T.fd_law P_law (liftSp K sp)
theorem fnd_inner {k : Nat} {dsp  : DSp} (T : Tx K mg) 
    (len : ∀ ds O R RE, dsp ds O R RE → ds.length = 1) (hread : ∀ ds O R RE, dsp ds O R RE → g_inner  { nx := fun _ O' => R .non O', rt := R } (startD N_inner ds) O) : FO_inner P w base T (k + 1) dsp :=
  fn_d (g := g_inner ) T.n_inner.F sc_inner len (der_inner T.m_list) hread
theorem fnd_parts_of {k : Nat} {dsp sp_inner sp_parts_of : DSp} (T : Tx K mg) (G_inner : FO_inner P w base T k sp_inner) (G_parts_of : FO_parts_of P w base T k sp_parts_of)
    (len : ∀ ds O R RE, dsp ds O R RE → ds.length = 1) (hread : ∀ ds O R RE, dsp ds O R RE → g_parts_of sp_inner sp_parts_of { nx := fun _ O' => R .non O', rt := R } (startD N_parts_of ds) O) : FO_parts_of P w base T (k + 1) dsp :=
  fn_d (g := g_parts_of sp_inner sp_parts_of) T.n_parts_of.F sc_parts_of len (der_parts_of T.n_inner G_inner T.n_parts_of G_parts_of T.m_sum) hread
theorem fnd_deep_of {k : Nat} {dsp sp_inner sp_deep_of : DSp} (T : Tx K mg) (G_inner : FO_inner P w base T k sp_inner) (G_deep_of : FO_deep_of P w base T k sp_deep_of)
    (len : ∀ ds O R RE, dsp ds O R RE → ds.length = 1) (hread : ∀ ds O R RE, dsp ds O R RE → g_deep_of sp_inner sp_deep_of { nx := fun _ O' => R .non O', rt := R } (startD N_deep_of ds) O) : FO_deep_of P w base T (k + 1) dsp :=
  fn_d (g := g_deep_of sp_inner sp_deep_of) T.n_deep_of.F sc_deep_of len (der_deep_of T.n_inner G_inner T.n_deep_of G_deep_of T.m_max) hread
theorem fnd_part_at {k : Nat} {dsp sp_inner : DSp} (T : Tx K mg) (G_inner : FO_inner P w base T k sp_inner)
    (len : ∀ ds O R RE, dsp ds O R RE → ds.length = 2) (hread : ∀ ds O R RE, dsp ds O R RE → g_part_at sp_inner { nx := fun _ O' => R .non O', rt := R } (startD N_part_at ds) O) : FO_part_at P w base T (k + 1) dsp :=
  fn_d (g := g_part_at sp_inner) T.n_part_at.F sc_part_at len (der_part_at T.n_inner G_inner T.m_len) hread
theorem fnd_with_inner {k : Nat} {dsp  : DSp} (T : Tx K mg) 
    (len : ∀ ds O R RE, dsp ds O R RE → ds.length = 2) (hread : ∀ ds O R RE, dsp ds O R RE → g_with_inner  { nx := fun _ O' => R .non O', rt := R } (startD N_with_inner ds) O) : FO_with_inner P w base T (k + 1) dsp :=
  fn_d (g := g_with_inner ) T.n_with_inner.F sc_with_inner len (der_with_inner T.m_tuple) hread
theorem fndG_with_part {k : Nat} {dsp sp_inner sp_with_part sp_with_inner : DSp} (T : Tx K mg) (G_inner : FO_inner P w base T k sp_inner) (G_with_part : FO_with_part P w base T k sp_with_part) (G_with_inner : FO_with_inner P w base T k sp_with_inner)
    (len : ∀ ds O R RE, dsp ds O R RE → ds.length = 3) (hread : ∀ ds O R RE, dsp ds O R RE → g_with_part sp_inner sp_with_part sp_with_inner { nx := fun _ O' => VG R .non O', rt := VG R } (startD N_with_part ds) O) : FO_with_part P w base T (k + 1) dsp :=
  fn_dG (g := g_with_part sp_inner sp_with_part sp_with_inner) T.n_with_part.F sc_with_part len (der_with_part T.n_inner G_inner T.n_with_part G_with_part T.n_with_inner G_with_inner) hread
theorem fnd_tidied_within {k : Nat} {dsp sp_tidied_within sp_with_inner sp_inner : DSp} (T : Tx K mg) (G_tidied_within : FO_tidied_within P w base T k sp_tidied_within) (G_with_inner : FO_with_inner P w base T k sp_with_inner) (G_inner : FO_inner P w base T k sp_inner)
    (len : ∀ ds O R RE, dsp ds O R RE → ds.length = 2) (hread : ∀ ds O R RE, dsp ds O R RE → g_tidied_within sp_tidied_within sp_with_inner sp_inner { nx := fun _ O' => R .non O', rt := R } (startD N_tidied_within ds) O) : FO_tidied_within P w base T (k + 1) dsp :=
  fn_d (g := g_tidied_within sp_tidied_within sp_with_inner sp_inner) T.n_tidied_within.F sc_tidied_within len (der_tidied_within T.n_tidied_within G_tidied_within T.n_with_inner G_with_inner T.n_inner G_inner T.m_reversed T.m_range T.m_len T.m_str) hread
theorem fnd_tidied {k : Nat} {dsp sp_tidied_within : DSp} (T : Tx K mg) (G_tidied_within : FO_tidied_within P w base T k sp_tidied_within)
    (len : ∀ ds O R RE, dsp ds O R RE → ds.length = 1) (hread : ∀ ds O R RE, dsp ds O R RE → g_tidied sp_tidied_within { nx := fun _ O' => R .non O', rt := R } (startD N_tidied ds) O) : FO_tidied P w base T (k + 1) dsp :=
  fn_d (g := g_tidied sp_tidied_within) T.n_tidied.F sc_tidied len (der_tidied T.n_tidied_within G_tidied_within) hread
theorem fnd_can_step {k : Nat} {dsp  : DSp} (T : Tx K mg) 
    (len : ∀ ds O R RE, dsp ds O R RE → ds.length = 1) (hread : ∀ ds O R RE, dsp ds O R RE → g_can_step  { nx := fun _ O' => R .non O', rt := R } (startD N_can_step ds) O) : FO_can_step P w base T (k + 1) dsp :=
  fn_d (g := g_can_step ) T.n_can_step.F sc_can_step len (der_can_step ) hread
theorem fnd_put_places {k : Nat} {dsp sp_can_step sp_inner sp_put_places : DSp} (T : Tx K mg) (G_can_step : FO_can_step P w base T k sp_can_step) (G_inner : FO_inner P w base T k sp_inner) (G_put_places : FO_put_places P w base T k sp_put_places)
    (len : ∀ ds O R RE, dsp ds O R RE → ds.length = 3) (hread : ∀ ds O R RE, dsp ds O R RE → g_put_places sp_can_step sp_inner sp_put_places { nx := fun _ O' => R .non O', rt := R } (startD N_put_places ds) O) : FO_put_places P w base T (k + 1) dsp :=
  fn_d (g := g_put_places sp_can_step sp_inner sp_put_places) T.n_put_places.F sc_put_places len (der_put_places T.n_can_step G_can_step T.n_inner G_inner T.n_put_places G_put_places T.m_enumerate) hread
theorem fnd_step_places {k : Nat} {dsp sp_put_places : DSp} (T : Tx K mg) (G_put_places : FO_put_places P w base T k sp_put_places)
    (len : ∀ ds O R RE, dsp ds O R RE → ds.length = 1) (hread : ∀ ds O R RE, dsp ds O R RE → g_step_places sp_put_places { nx := fun _ O' => R .non O', rt := R } (startD N_step_places ds) O) : FO_step_places P w base T (k + 1) dsp :=
  fn_d (g := g_step_places sp_put_places) T.n_step_places.F sc_step_places len (der_step_places T.n_put_places G_put_places) hread
theorem fnd_name_count {k : Nat} {dsp sp_inner sp_name_count : DSp} (T : Tx K mg) (G_inner : FO_inner P w base T k sp_inner) (G_name_count : FO_name_count P w base T k sp_name_count)
    (len : ∀ ds O R RE, dsp ds O R RE → ds.length = 2) (hread : ∀ ds O R RE, dsp ds O R RE → g_name_count sp_inner sp_name_count { nx := fun _ O' => R .non O', rt := R } (startD N_name_count ds) O) : FO_name_count P w base T (k + 1) dsp :=
  fn_d (g := g_name_count sp_inner sp_name_count) T.n_name_count.F sc_name_count len (der_name_count T.n_inner G_inner T.n_name_count G_name_count T.m_sum) hread
theorem fnd_with_given {k : Nat} {dsp sp_with_inner sp_inner sp_with_given : DSp} (T : Tx K mg) (G_with_inner : FO_with_inner P w base T k sp_with_inner) (G_inner : FO_inner P w base T k sp_inner) (G_with_given : FO_with_given P w base T k sp_with_given)
    (len : ∀ ds O R RE, dsp ds O R RE → ds.length = 3) (hread : ∀ ds O R RE, dsp ds O R RE → g_with_given sp_with_inner sp_inner sp_with_given { nx := fun _ O' => R .non O', rt := R } (startD N_with_given ds) O) : FO_with_given P w base T (k + 1) dsp :=
  fn_d (g := g_with_given sp_with_inner sp_inner sp_with_given) T.n_with_given.F sc_with_given len (der_with_given T.n_with_inner G_with_inner T.n_inner G_inner T.n_with_given G_with_given) hread
theorem fnd_what_comes {k : Nat} {dsp sp_with_given : DSp} (T : Tx K mg) (G_with_given : FO_with_given P w base T k sp_with_given)
    (len : ∀ ds O R RE, dsp ds O R RE → ds.length = 1) (hread : ∀ ds O R RE, dsp ds O R RE → g_what_comes sp_with_given { nx := fun _ O' => R .non O', rt := R } (startD N_what_comes ds) O) : FO_what_comes P w base T (k + 1) dsp :=
  fn_d (g := g_what_comes sp_with_given) T.n_what_comes.F sc_what_comes len (der_what_comes T.n_with_given G_with_given T.m_int) hread
theorem fnd_parts_that_come {k : Nat} {dsp sp_parts_of sp_what_comes sp_name_count : DSp} (T : Tx K mg) (G_parts_of : FO_parts_of P w base T k sp_parts_of) (G_what_comes : FO_what_comes P w base T k sp_what_comes) (G_name_count : FO_name_count P w base T k sp_name_count)
    (len : ∀ ds O R RE, dsp ds O R RE → ds.length = 2) (hread : ∀ ds O R RE, dsp ds O R RE → g_parts_that_come sp_parts_of sp_what_comes sp_name_count { nx := fun _ O' => R .non O', rt := R } (startD N_parts_that_come ds) O) : FO_parts_that_come P w base T (k + 1) dsp :=
  fn_d (g := g_parts_that_come sp_parts_of sp_what_comes sp_name_count) T.n_parts_that_come.F sc_parts_that_come len (der_parts_that_come T.n_parts_of G_parts_of T.n_what_comes G_what_comes T.n_name_count G_name_count) hread
theorem fnd_done_at {k : Nat} {dsp sp_tidied sp_with_part sp_what_comes sp_part_at : DSp} (T : Tx K mg) (G_tidied : FO_tidied P w base T k sp_tidied) (G_with_part : FO_with_part P w base T k sp_with_part) (G_what_comes : FO_what_comes P w base T k sp_what_comes) (G_part_at : FO_part_at P w base T k sp_part_at)
    (len : ∀ ds O R RE, dsp ds O R RE → ds.length = 2) (hread : ∀ ds O R RE, dsp ds O R RE → g_done_at sp_tidied sp_with_part sp_what_comes sp_part_at { nx := fun _ O' => R .non O', rt := R } (startD N_done_at ds) O) : FO_done_at P w base T (k + 1) dsp :=
  fn_d (g := g_done_at sp_tidied sp_with_part sp_what_comes sp_part_at) T.n_done_at.F sc_done_at len (der_done_at T.n_tidied G_tidied T.n_with_part G_with_part T.n_what_comes G_what_comes T.n_part_at G_part_at) hread
theorem fnd_next_place {k : Nat} {dsp  : DSp} (T : Tx K mg) 
    (len : ∀ ds O R RE, dsp ds O R RE → ds.length = 3) (hread : ∀ ds O R RE, dsp ds O R RE → g_next_place  { nx := fun _ O' => R .non O', rt := R } (startD N_next_place ds) O) : FO_next_place P w base T (k + 1) dsp :=
  fn_d (g := g_next_place ) T.n_next_place.F sc_next_place len (der_next_place T.m_len) hread
theorem fnd_run {k : Nat} {dsp sp_tidied sp_step_places sp_next_place sp_parts_that_come sp_part_at sp_done_at sp_deep_of : DSp} (T : Tx K mg) (G_tidied : FO_tidied P w base T k sp_tidied) (G_step_places : FO_step_places P w base T k sp_step_places) (G_next_place : FO_next_place P w base T k sp_next_place) (G_parts_that_come : FO_parts_that_come P w base T k sp_parts_that_come) (G_part_at : FO_part_at P w base T k sp_part_at) (G_done_at : FO_done_at P w base T k sp_done_at) (G_deep_of : FO_deep_of P w base T k sp_deep_of)
    (len : ∀ ds O R RE, dsp ds O R RE → ds.length = 2) (hread : ∀ ds O R RE, dsp ds O R RE → g_run sp_tidied sp_step_places sp_next_place sp_parts_that_come sp_part_at sp_done_at sp_deep_of (.int 200) (.int 1500) (.int 100) T.C_TooLong (XG RE) { nx := fun _ O' => VG R .non O', rt := VG R } (startD N_run ds) O) : FO_run P w base T (k + 1) dsp :=
  fn_dXD (g := g_run sp_tidied sp_step_places sp_next_place sp_parts_that_come sp_part_at sp_done_at sp_deep_of (.int 200) (.int 1500) (.int 100) T.C_TooLong) T.n_run.F sc_run len (der_run T.n_tidied G_tidied T.n_step_places G_step_places T.n_next_place G_next_place T.n_parts_that_come G_parts_that_come T.n_part_at G_part_at T.n_done_at G_done_at T.n_deep_of G_deep_of T.m_len T.c_MOST_STEPS T.c_MOST_PARTS T.c_MOST_DEEP T.x_TooLong) hread
theorem fnd__law_inner {k : Nat} {dsp  : DSp} (T : Tx K mg) 
    (len : ∀ ds O R RE, dsp ds O R RE → ds.length = 1) (hread : ∀ ds O R RE, dsp ds O R RE → g__law_inner  { nx := fun _ O' => R .non O', rt := R } (startD N__law_inner ds) O) : FO__law_inner P w base T (k + 1) dsp :=
  fn_d (g := g__law_inner ) T.n__law_inner.F sc__law_inner len (der__law_inner T.m_list) hread
theorem fnd__law_can {k : Nat} {dsp  : DSp} (T : Tx K mg) 
    (len : ∀ ds O R RE, dsp ds O R RE → ds.length = 1) (hread : ∀ ds O R RE, dsp ds O R RE → g__law_can  { nx := fun _ O' => R .non O', rt := R } (startD N__law_can ds) O) : FO__law_can P w base T (k + 1) dsp :=
  fn_d (g := g__law_can ) T.n__law_can.F sc__law_can len (der__law_can ) hread
theorem fnd__law_places {k : Nat} {dsp sp__law_can sp__law_inner sp__law_places : DSp} (T : Tx K mg) (G__law_can : FO__law_can P w base T k sp__law_can) (G__law_inner : FO__law_inner P w base T k sp__law_inner) (G__law_places : FO__law_places P w base T k sp__law_places)
    (len : ∀ ds O R RE, dsp ds O R RE → ds.length = 2) (hread : ∀ ds O R RE, dsp ds O R RE → g__law_places sp__law_can sp__law_inner sp__law_places { nx := fun _ O' => R .non O', rt := R } (startD N__law_places ds) O) : FO__law_places P w base T (k + 1) dsp :=
  fn_d (g := g__law_places sp__law_can sp__law_inner sp__law_places) T.n__law_places.F sc__law_places len (der__law_places T.n__law_can G__law_can T.n__law_inner G__law_inner T.n__law_places G__law_places T.m_int T.m_enumerate) hread
theorem fnd__law_bare {k : Nat} {dsp sp__law_bare : DSp} (T : Tx K mg) (G__law_bare : FO__law_bare P w base T k sp__law_bare)
    (len : ∀ ds O R RE, dsp ds O R RE → ds.length = 2) (hread : ∀ ds O R RE, dsp ds O R RE → g__law_bare sp__law_bare { nx := fun _ O' => R .non O', rt := R } (startD N__law_bare ds) O) : FO__law_bare P w base T (k + 1) dsp :=
  fn_d (g := g__law_bare sp__law_bare) T.n__law_bare.F sc__law_bare len (der__law_bare T.n__law_bare G__law_bare T.m_tuple) hread
theorem fnd__law_dressed {k : Nat} {dsp sp__law_dressed : DSp} (T : Tx K mg) (G__law_dressed : FO__law_dressed P w base T k sp__law_dressed)
    (len : ∀ ds O R RE, dsp ds O R RE → ds.length = 2) (hread : ∀ ds O R RE, dsp ds O R RE → g__law_dressed sp__law_dressed { nx := fun _ O' => R .non O', rt := R } (startD N__law_dressed ds) O) : FO__law_dressed P w base T (k + 1) dsp :=
  fn_d (g := g__law_dressed sp__law_dressed) T.n__law_dressed.F sc__law_dressed len (der__law_dressed T.n__law_dressed G__law_dressed T.m_str T.m_tuple) hread
theorem fnd__law_moved {k : Nat} {dsp sp__law_moved : DSp} (T : Tx K mg) (G__law_moved : FO__law_moved P w base T k sp__law_moved)
    (len : ∀ ds O R RE, dsp ds O R RE → ds.length = 3) (hread : ∀ ds O R RE, dsp ds O R RE → g__law_moved sp__law_moved { nx := fun _ O' => R .non O', rt := R } (startD N__law_moved ds) O) : FO__law_moved P w base T (k + 1) dsp :=
  fn_d (g := g__law_moved sp__law_moved) T.n__law_moved.F sc__law_moved len (der__law_moved T.n__law_moved G__law_moved T.m_int T.m_tuple) hread
theorem fnd__law_put {k : Nat} {dsp sp__law_moved sp__law_put : DSp} (T : Tx K mg) (G__law_moved : FO__law_moved P w base T k sp__law_moved) (G__law_put : FO__law_put P w base T k sp__law_put)
    (len : ∀ ds O R RE, dsp ds O R RE → ds.length = 3) (hread : ∀ ds O R RE, dsp ds O R RE → g__law_put sp__law_moved sp__law_put { nx := fun _ O' => R .non O', rt := R } (startD N__law_put ds) O) : FO__law_put P w base T (k + 1) dsp :=
  fn_d (g := g__law_put sp__law_moved sp__law_put) T.n__law_put.F sc__law_put len (der__law_put T.n__law_moved G__law_moved T.n__law_put G__law_put T.m_int T.m_tuple) hread
theorem fndG__law_step {k : Nat} {dsp sp__law_step sp__law_put : DSp} (T : Tx K mg) (G__law_step : FO__law_step P w base T k sp__law_step) (G__law_put : FO__law_put P w base T k sp__law_put)
    (len : ∀ ds O R RE, dsp ds O R RE → ds.length = 2) (hread : ∀ ds O R RE, dsp ds O R RE → g__law_step sp__law_step sp__law_put { nx := fun _ O' => VG R .non O', rt := VG R } (startD N__law_step ds) O) : FO__law_step P w base T (k + 1) dsp :=
  fn_dG (g := g__law_step sp__law_step sp__law_put) T.n__law_step.F sc__law_step len (der__law_step T.n__law_step G__law_step T.n__law_put G__law_put T.m_list T.m_tuple T.m_int) hread
theorem fnd__law_parts {k : Nat} {dsp sp__law_inner sp__law_parts : DSp} (T : Tx K mg) (G__law_inner : FO__law_inner P w base T k sp__law_inner) (G__law_parts : FO__law_parts P w base T k sp__law_parts)
    (len : ∀ ds O R RE, dsp ds O R RE → ds.length = 1) (hread : ∀ ds O R RE, dsp ds O R RE → g__law_parts sp__law_inner sp__law_parts { nx := fun _ O' => R .non O', rt := R } (startD N__law_parts ds) O) : FO__law_parts P w base T (k + 1) dsp :=
  fn_d (g := g__law_parts sp__law_inner sp__law_parts) T.n__law_parts.F sc__law_parts len (der__law_parts T.n__law_inner G__law_inner T.n__law_parts G__law_parts T.m_sum) hread
theorem fnd__law_high {k : Nat} {dsp sp__law_inner sp__law_high : DSp} (T : Tx K mg) (G__law_inner : FO__law_inner P w base T k sp__law_inner) (G__law_high : FO__law_high P w base T k sp__law_high)
    (len : ∀ ds O R RE, dsp ds O R RE → ds.length = 1) (hread : ∀ ds O R RE, dsp ds O R RE → g__law_high sp__law_inner sp__law_high { nx := fun _ O' => R .non O', rt := R } (startD N__law_high ds) O) : FO__law_high P w base T (k + 1) dsp :=
  fn_d (g := g__law_high sp__law_inner sp__law_high) T.n__law_high.F sc__law_high len (der__law_high T.n__law_inner G__law_inner T.n__law_high G__law_high T.m_max) hread
theorem fndG__law_run {k : Nat} {dsp sp__law_places sp__law_dressed sp__law_step sp__law_parts sp__law_high : DSp} (T : Tx K mg) (G__law_places : FO__law_places P w base T k sp__law_places) (G__law_dressed : FO__law_dressed P w base T k sp__law_dressed) (G__law_step : FO__law_step P w base T k sp__law_step) (G__law_parts : FO__law_parts P w base T k sp__law_parts) (G__law_high : FO__law_high P w base T k sp__law_high)
    (len : ∀ ds O R RE, dsp ds O R RE → ds.length = 2) (hread : ∀ ds O R RE, dsp ds O R RE → g__law_run sp__law_places sp__law_dressed sp__law_step sp__law_parts sp__law_high { nx := fun _ O' => VG R .non O', rt := VG R } (startD N__law_run ds) O) : FO__law_run P w base T (k + 1) dsp :=
  fn_dG (g := g__law_run sp__law_places sp__law_dressed sp__law_step sp__law_parts sp__law_high) T.n__law_run.F sc__law_run len (der__law_run T.n__law_places G__law_places T.n__law_dressed G__law_dressed T.n__law_step G__law_step T.n__law_parts G__law_parts T.n__law_high G__law_high T.m_range T.m_len T.m_max) hread
theorem fnd__law_level {k : Nat} {dsp  : DSp} (T : Tx K mg) 
    (len : ∀ ds O R RE, dsp ds O R RE → ds.length = 1) (hread : ∀ ds O R RE, dsp ds O R RE → g__law_level  { nx := fun _ O' => R .non O', rt := R } (startD N__law_level ds) O) : FO__law_level P w base T (k + 1) dsp :=
  fn_d (g := g__law_level ) T.n__law_level.F sc__law_level len (der__law_level T.m_range) hread
theorem fnd__law_often {k : Nat} {dsp sp__law_level : DSp} (T : Tx K mg) (G__law_level : FO__law_level P w base T k sp__law_level)
    (len : ∀ ds O R RE, dsp ds O R RE → ds.length = 2) (hread : ∀ ds O R RE, dsp ds O R RE → g__law_often sp__law_level { nx := fun _ O' => R .non O', rt := R } (startD N__law_often ds) O) : FO__law_often P w base T (k + 1) dsp :=
  fn_d (g := g__law_often sp__law_level) T.n__law_often.F sc__law_often len (der__law_often T.n__law_level G__law_level T.m_range) hread
theorem fnd__law_tower {k : Nat} {dsp sp__law_take sp__law_often : DSp} (T : Tx K mg) (G__law_take : FO__law_take P w base T k sp__law_take) (G__law_often : FO__law_often P w base T k sp__law_often)
    (len : ∀ ds O R RE, dsp ds O R RE → ds.length = 1) (hread : ∀ ds O R RE, dsp ds O R RE → g__law_tower sp__law_take sp__law_often { nx := fun _ O' => R .non O', rt := R } (startD N__law_tower ds) O) : FO__law_tower P w base T (k + 1) dsp :=
  fn_d (g := g__law_tower sp__law_take sp__law_often) T.n__law_tower.F sc__law_tower len (der__law_tower T.n__law_take G__law_take T.n__law_often G__law_often T.m_int T.m_range) hread
theorem fnd__law_doubled {k : Nat} {dsp  : DSp} (T : Tx K mg) 
    (len : ∀ ds O R RE, dsp ds O R RE → ds.length = 2) (hread : ∀ ds O R RE, dsp ds O R RE → g__law_doubled  { nx := fun _ O' => R .non O', rt := R } (startD N__law_doubled ds) O) : FO__law_doubled P w base T (k + 1) dsp :=
  fn_d (g := g__law_doubled ) T.n__law_doubled.F sc__law_doubled len (der__law_doubled T.m_range) hread
theorem fnd__law_halves {k : Nat} {dsp sp__law_take sp__law_doubled : DSp} (T : Tx K mg) (G__law_take : FO__law_take P w base T k sp__law_take) (G__law_doubled : FO__law_doubled P w base T k sp__law_doubled)
    (len : ∀ ds O R RE, dsp ds O R RE → ds.length = 1) (hread : ∀ ds O R RE, dsp ds O R RE → g__law_halves sp__law_take sp__law_doubled { nx := fun _ O' => R .non O', rt := R } (startD N__law_halves ds) O) : FO__law_halves P w base T (k + 1) dsp :=
  fn_d (g := g__law_halves sp__law_take sp__law_doubled) T.n__law_halves.F sc__law_halves len (der__law_halves T.n__law_take G__law_take T.n__law_doubled G__law_doubled T.m_range) hread
theorem fnd__law_row {k : Nat} {dsp  : DSp} (T : Tx K mg) 
    (len : ∀ ds O R RE, dsp ds O R RE → ds.length = 1) (hread : ∀ ds O R RE, dsp ds O R RE → g__law_row  { nx := fun _ O' => R .non O', rt := R } (startD N__law_row ds) O) : FO__law_row P w base T (k + 1) dsp :=
  fn_d (g := g__law_row ) T.n__law_row.F sc__law_row len (der__law_row T.m_range) hread
theorem fnd__law_wide {k : Nat} {dsp sp__law_doubled sp__law_row sp__law_take : DSp} (T : Tx K mg) (G__law_doubled : FO__law_doubled P w base T k sp__law_doubled) (G__law_row : FO__law_row P w base T k sp__law_row) (G__law_take : FO__law_take P w base T k sp__law_take)
    (len : ∀ ds O R RE, dsp ds O R RE → ds.length = 1) (hread : ∀ ds O R RE, dsp ds O R RE → g__law_wide sp__law_doubled sp__law_row sp__law_take { nx := fun _ O' => R .non O', rt := R } (startD N__law_wide ds) O) : FO__law_wide P w base T (k + 1) dsp :=
  fn_d (g := g__law_wide sp__law_doubled sp__law_row sp__law_take) T.n__law_wide.F sc__law_wide len (der__law_wide T.n__law_doubled G__law_doubled T.n__law_row G__law_row T.n__law_take G__law_take T.m_range) hread
theorem fnd__law_deepened {k : Nat} {dsp sp__law_take sp__law_row : DSp} (T : Tx K mg) (G__law_take : FO__law_take P w base T k sp__law_take) (G__law_row : FO__law_row P w base T k sp__law_row)
    (len : ∀ ds O R RE, dsp ds O R RE → ds.length = 1) (hread : ∀ ds O R RE, dsp ds O R RE → g__law_deepened sp__law_take sp__law_row { nx := fun _ O' => R .non O', rt := R } (startD N__law_deepened ds) O) : FO__law_deepened P w base T (k + 1) dsp :=
  fn_d (g := g__law_deepened sp__law_take sp__law_row) T.n__law_deepened.F sc__law_deepened len (der__law_deepened T.n__law_take G__law_take T.n__law_row G__law_row T.m_range) hread
theorem fnd__law_odd {k : Nat} {dsp  : DSp} (T : Tx K mg) 
    (len : ∀ ds O R RE, dsp ds O R RE → ds.length = 1) (hread : ∀ ds O R RE, dsp ds O R RE → g__law_odd K T.C_NoFit T.C_NoKind T.C_NoLong T.C_NoMaking T.C_NoNumber T.C_NoStep T.C_NoText T.C_TooMany T.C_TooLong { nx := fun _ O' => R .non O', rt := R } (startD N__law_odd ds) O) : FO__law_odd P w base T (k + 1) dsp :=
  fn_dC (g := g__law_odd K T.C_NoFit T.C_NoKind T.C_NoLong T.C_NoMaking T.C_NoNumber T.C_NoStep T.C_NoText T.C_TooMany T.C_TooLong) T.n__law_odd.F sc__law_odd len (der__law_odd T.m_isinstance T.m_ValueError T.k_NoFit T.k_NoKind T.k_NoLong T.k_NoMaking T.k_NoNumber T.k_NoStep T.k_NoText T.k_TooMany T.k_TooLong) hread
theorem fndG__law_told {k : Nat} {dsp sp_run sp__law_odd : DSp} (T : Tx K mg) (G_run : FO_run P w base T k sp_run) (G__law_odd : FO__law_odd P w base T k sp__law_odd)
    (len : ∀ ds O R RE, dsp ds O R RE → ds.length = 2) (hread : ∀ ds O R RE, dsp ds O R RE → g__law_told sp_run sp__law_odd K T.C_KindError { nx := fun _ O' => VG R .non O', rt := VG R } (startD N__law_told ds) O) : FO__law_told P w base T (k + 1) dsp :=
  fn_dG (g := g__law_told sp_run sp__law_odd K T.C_KindError) T.n__law_told.F sc__law_told len (der__law_told T.n_run G_run T.n__law_odd G__law_odd T.k_KindError) hread
theorem fnd_law {k : Nat} {dsp sp__law_pool sp__law_tower sp__law_wide sp__law_deepened sp__law_halves sp__law_take sp__law_run sp__law_bare sp__law_told : DSp} (T : Tx K mg) (G__law_pool : FO__law_pool P w base T k sp__law_pool) (G__law_tower : FO__law_tower P w base T k sp__law_tower) (G__law_wide : FO__law_wide P w base T k sp__law_wide) (G__law_deepened : FO__law_deepened P w base T k sp__law_deepened) (G__law_halves : FO__law_halves P w base T k sp__law_halves) (G__law_take : FO__law_take P w base T k sp__law_take) (G__law_run : FO__law_run P w base T k sp__law_run) (G__law_bare : FO__law_bare P w base T k sp__law_bare) (G__law_told : FO__law_told P w base T k sp__law_told)
    (len : ∀ ds O R RE, dsp ds O R RE → ds.length = 1) (hread : ∀ ds O R RE, dsp ds O R RE → g_law sp__law_pool sp__law_tower sp__law_wide sp__law_deepened sp__law_halves sp__law_take sp__law_run sp__law_bare sp__law_told K T.a__law_tower T.a__law_wide T.a__law_deepened T.a__law_halves { nx := fun _ O' => R .non O', rt := R } (startD N_law ds) O) : FO_law P w base T (k + 1) dsp :=
  fn_d (g := g_law sp__law_pool sp__law_tower sp__law_wide sp__law_deepened sp__law_halves sp__law_take sp__law_run sp__law_bare sp__law_told K T.a__law_tower T.a__law_wide T.a__law_deepened T.a__law_halves) T.n_law.F sc_law len (der_law T.n__law_pool G__law_pool T.n__law_tower G__law_tower T.n__law_wide G__law_wide T.n__law_deepened G__law_deepened T.n__law_halves G__law_halves T.n__law_take G__law_take T.n__law_run G__law_run T.n__law_bare G__law_bare T.n__law_told G__law_told T.m_range T.m_len T.m_min T.m_max T.m_int T.m_list) hread
end
end Kf
namespace Kf
open PySem PySem.Spec L2
open PyProof.Rows hiding St
/-! ### comprehensions over a list of things -/
section
variable {p : Pat} {ft : FT} {fe : FE} {ρ : DEnv} {O : Ow} {α β : Type}
theorem lcA_map (f g : α → D) : ∀ (xs : List α) (acc : List D) (Q : List D → Ow → Prop), acc.length + xs.length ≤ sizeLine →
    (∀ x ∈ xs, ∀ Q' : VD, Q' (g x) O → patGet (patD p (f x) ρ) fun ρ1 => fe ρ1 O Q') → Q (acc ++ xs.map g) O → lcD p fYes fe ρ (xs.map f) acc O Q
  | [], acc, Q, _, _, q => by simpa [lcD] using q
  | x :: xs, acc, Q, hl, hs, q => by
    rw [List.length_cons] at hl
    have z := hs x List.mem_cons_self (fun e O2 => acc.length < sizeLine ∧ lcD p fYes fe ρ (xs.map f) (acc ++ [e]) O2 Q) ⟨by omega, lcA_map f g xs _ Q (by rw [List.length_append, List.length_singleton]; omega) (fun d' hd => hs d' (List.mem_cons_of_mem _ hd)) (by simpa using q)⟩
    rw [List.map_cons]
    unfold lcD
    simpa [fYes] using z
/-- .. each item one of many, the things of some kind -/
theorem lcA_all (G : β → Prop) (f : α → D) (g : β → D) : ∀ (xs : List α) (acc : List D) (Q : List D → Ow → Prop), acc.length + xs.length ≤ sizeLine →
    (∀ x ∈ xs, ∀ Q' : VD, (∀ y, G y → Q' (g y) O) → patGet (patD p (f x) ρ) fun ρ1 => fe ρ1 O Q') → (∀ ys : List β, ys.length = xs.length → (∀ y ∈ ys, G y) → Q (acc ++ ys.map g) O) → lcD p fYes fe ρ (xs.map f) acc O Q
  | [], acc, Q, _, _, q => by have := q [] rfl (fun x h => nomatch h); simpa [lcD] using this
  | x :: xs, acc, Q, hl, hs, q => by
    rw [List.length_cons] at hl
    have z := hs x List.mem_cons_self (fun e O2 => acc.length < sizeLine ∧ lcD p fYes fe ρ (xs.map f) (acc ++ [e]) O2 Q) fun y hy => ⟨by omega, lcA_all G f g xs _ Q (by rw [List.length_append, List.length_singleton]; omega) (fun d' hd => hs d' (List.mem_cons_of_mem _ hd)) fun ys h1 h2 => by
      have := q (y :: ys) (by rw [List.length_cons, List.length_cons, h1]) fun u hu => by
        rcases List.mem_cons.mp hu with rfl | hu
        · exact hy
        · exact h2 u hu
      simpa using this⟩
    rw [List.map_cons]
    unfold lcD
    simpa [fYes] using z
end
/-- range as a map -/
theorem rangeD_map (lo : Int) (n : Nat) : rangeD lo n = (List.range n).map fun i => D.int (lo + (i : Nat)) := rfl
/-- a walk over a map, by places -/
theorem forA_ix {p : Pat} {gb : GS} {R : DEnds} {α : Type} (f : α → D) (I : List α → List α → DEnv → Ow → Prop) : ∀ (xs pre : List α) (ρ : DEnv) (O : Ow), I pre xs ρ O → (∀ ρ O, I (pre ++ xs) [] ρ O → R.nx ρ O) →
    (∀ pre' x rest, pre ++ xs = pre' ++ x :: rest → ∀ ρ O, I pre' (x :: rest) ρ O → ∀ N : DEnv → Ow → Prop, (∀ ρ O, I (pre' ++ [x]) rest ρ O → N ρ O) → patGet (patD p (f x) ρ) fun ρ1 => gb { R with nx := N, ct := N, bk := R.nx } ρ1 O) → forD p gb R (xs.map f) ρ O
  | [], pre, ρ, O, h, hd, _ => hd ρ O (by rw [List.append_nil]; exact h)
  | x :: xs, pre, ρ, O, h, hd, hs => by
    have q := hs pre x xs rfl ρ O h (forD p gb R (xs.map f)) fun ρ' O' h' => by
      refine forA_ix f I xs (pre ++ [x]) ρ' O' h' (fun ρ O z => hd ρ O ?_) fun pre' y rest e => hs pre' y rest ?_
      · simpa using z
      · rw [← e]; simp
    rw [List.map_cons]
    unfold forD
    exact q
end Kf
namespace Kf
open PySem PySem.Spec L2
open PyProof.Rows hiding St
section
variable {P : Program} {w : World} {K : PySem.W.Frag} {mg : Str → Option Value} {base : Heap} {CX : CXT} {f : Addr} {fd : FuncData} {ps : List Str} {k k' : Nat}
theorem fnUp {sp : Sp} (h : FnOk P w K mg base CX k f fd ps sp) (hk : k ≤ k') : FnOk P w K mg base CX k' f fd ps sp :=
  ⟨h.1, fun A outer s H args us vs Q E a b c d e => h.2 A outer s H args us vs Q E (a.mono hk) b c d e⟩
end
end Kf
namespace Kf
open PySem PySem.Spec L2
open PyProof.Rows hiding St
theorem gSeq_step {g u : GS} {R : DEnds} {ρ : DEnv} {O : Ow} (h : g { R with nx := u R } ρ O) : gSeq g u R ρ O := h
theorem rIx_any {xs : List D} {i : Int} {O : Ow} {Q : VD} (h0 : 0 ≤ i) (h1 : i < xs.length) (h : ∀ v ∈ xs, Q v O) : rIxD (.lst xs) (.int i) O Q := by
  obtain ⟨v, e1, e2⟩ := atI_some h0 h1
  rw [rIx_l e1]
  exact h v e2
end Kf
/-! Kpg: programs as data. -/
namespace Kf
open PySem PySem.Spec L2
open PyProof.Rows hiding St
/-! ### words -/
section
variable {neg : Bool} {O : Ow} {Q : VD}
theorem rIn_ws {z : Str} {ts : List Str} (hz : PyData.strOk z = true) (h : ∀ t ∈ ts, PyData.strOk t = true) : rInD neg (.str z) (.tup (ts.map .str)) O Q = Q (.bl (neg ^^ decide (z ∈ ts))) O := by
  have h1 : isPys (ts.map D.str) = true := by
    rw [isPys_all, List.all_eq_true]
    intro d hd
    obtain ⟨t, ht, rfl⟩ := List.mem_map.mp hd
    simp only [isPy, h t ht]
  have h2 : (ts.map D.str).any (fun x => PyData.eqv (toPy x) (toPy (.str z))) = decide (z ∈ ts) := by
    clear h h1
    induction ts with
    | nil => simp
    | cons t ts ih =>
      have e : PyData.eqv (toPy (.str t)) (toPy (.str z)) = decide (t = z) := deq_s
      rw [List.map_cons, List.any_cons, ih, e]
      by_cases h : t = z
      · subst h; simp
      · have h' : ¬ z = t := fun q => h q.symm
        simp [h, h']
  simp only [rInD, deref_str, deref_tup, isPy, hz, h1, h2, true_and]
  first | rfl | simp [dp, toPy, PyData.depth]
theorem sw_name : PyData.strOk (Str.ofString "name") = true := by decide +kernel
theorem sw_thing : PyData.strOk (Str.ofString "thing") = true := by decide +kernel
theorem sw_take : PyData.strOk (Str.ofString "take") = true := by decide +kernel
theorem sw_give : PyData.strOk (Str.ofString "give") = true := by decide +kernel
theorem sw_pair : PyData.strOk (Str.ofString "pair") = true := by decide +kernel
theorem sw_first : PyData.strOk (Str.ofString "first") = true := by decide +kernel
theorem sw_second : PyData.strOk (Str.ofString "second") = true := by decide +kernel
theorem sw_mark : PyData.strOk (Str.ofString "mark") = true := by decide +kernel
theorem sw_one : PyData.strOk (Str.ofString "one") = true := by decide +kernel
theorem sw_to : PyData.strOk (Str.ofString "to") = true := by decide +kernel
theorem sw_both : PyData.strOk (Str.ofString "both") = true := by decide +kernel
theorem sw_at : PyData.strOk (Str.ofString "at") = true := by decide +kernel
theorem te_name_take : rEqD neg (.str (Str.ofString "name")) (.str (Str.ofString "take")) O Q = Q (.bl neg) O := by
  rw [rEq_s sw_name sw_take, show decide (Str.ofString "name" = Str.ofString "take") = false by decide +kernel]; cases neg <;> rfl
theorem te_name_give : rEqD neg (.str (Str.ofString "name")) (.str (Str.ofString "give")) O Q = Q (.bl neg) O := by
  rw [rEq_s sw_name sw_give, show decide (Str.ofString "name" = Str.ofString "give") = false by decide +kernel]; cases neg <;> rfl
theorem te_name_pair : rEqD neg (.str (Str.ofString "name")) (.str (Str.ofString "pair")) O Q = Q (.bl neg) O := by
  rw [rEq_s sw_name sw_pair, show decide (Str.ofString "name" = Str.ofString "pair") = false by decide +kernel]; cases neg <;> rfl
theorem te_name_first : rEqD neg (.str (Str.ofString "name")) (.str (Str.ofString "first")) O Q = Q (.bl neg) O := by
  rw [rEq_s sw_name sw_first, show decide (Str.ofString "name" = Str.ofString "first") = false by decide +kernel]; cases neg <;> rfl
theorem te_name_second : rEqD neg (.str (Str.ofString "name")) (.str (Str.ofString "second")) O Q = Q (.bl neg) O := by
  rw [rEq_s sw_name sw_second, show decide (Str.ofString "name" = Str.ofString "second") = false by decide +kernel]; cases neg <;> rfl
theorem te_name_to : rEqD neg (.str (Str.ofString "name")) (.str (Str.ofString "to")) O Q = Q (.bl neg) O := by
  rw [rEq_s sw_name sw_to, show decide (Str.ofString "name" = Str.ofString "to") = false by decide +kernel]; cases neg <;> rfl
theorem te_name_both : rEqD neg (.str (Str.ofString "name")) (.str (Str.ofString "both")) O Q = Q (.bl neg) O := by
  rw [rEq_s sw_name sw_both, show decide (Str.ofString "name" = Str.ofString "both") = false by decide +kernel]; cases neg <;> rfl
theorem te_name_one : rEqD neg (.str (Str.ofString "name")) (.str (Str.ofString "one")) O Q = Q (.bl neg) O := by
  rw [rEq_s sw_name sw_one, show decide (Str.ofString "name" = Str.ofString "one") = false by decide +kernel]; cases neg <;> rfl
theorem te_name_mark : rEqD neg (.str (Str.ofString "name")) (.str (Str.ofString "mark")) O Q = Q (.bl neg) O := by
  rw [rEq_s sw_name sw_mark, show decide (Str.ofString "name" = Str.ofString "mark") = false by decide +kernel]; cases neg <;> rfl
theorem te_name_name : rEqD neg (.str (Str.ofString "name")) (.str (Str.ofString "name")) O Q = Q (.bl !neg) O := by
  rw [rEq_s sw_name sw_name, show decide (Str.ofString "name" = Str.ofString "name") = true by decide +kernel]; cases neg <;> rfl
theorem te_name_thing : rEqD neg (.str (Str.ofString "name")) (.str (Str.ofString "thing")) O Q = Q (.bl neg) O := by
  rw [rEq_s sw_name sw_thing, show decide (Str.ofString "name" = Str.ofString "thing") = false by decide +kernel]; cases neg <;> rfl
theorem te_name_at : rEqD neg (.str (Str.ofString "name")) (.str (Str.ofString "at")) O Q = Q (.bl neg) O := by
  rw [rEq_s sw_name sw_at, show decide (Str.ofString "name" = Str.ofString "at") = false by decide +kernel]; cases neg <;> rfl
theorem te_thing_take : rEqD neg (.str (Str.ofString "thing")) (.str (Str.ofString "take")) O Q = Q (.bl neg) O := by
  rw [rEq_s sw_thing sw_take, show decide (Str.ofString "thing" = Str.ofString "take") = false by decide +kernel]; cases neg <;> rfl
theorem te_thing_give : rEqD neg (.str (Str.ofString "thing")) (.str (Str.ofString "give")) O Q = Q (.bl neg) O := by
  rw [rEq_s sw_thing sw_give, show decide (Str.ofString "thing" = Str.ofString "give") = false by decide +kernel]; cases neg <;> rfl
theorem te_thing_pair : rEqD neg (.str (Str.ofString "thing")) (.str (Str.ofString "pair")) O Q = Q (.bl neg) O := by
  rw [rEq_s sw_thing sw_pair, show decide (Str.ofString "thing" = Str.ofString "pair") = false by decide +kernel]; cases neg <;> rfl
theorem te_thing_first : rEqD neg (.str (Str.ofString "thing")) (.str (Str.ofString "first")) O Q = Q (.bl neg) O := by
  rw [rEq_s sw_thing sw_first, show decide (Str.ofString "thing" = Str.ofString "first") = false by decide +kernel]; cases neg <;> rfl
theorem te_thing_second : rEqD neg (.str (Str.ofString "thing")) (.str (Str.ofString "second")) O Q = Q (.bl neg) O := by
  rw [rEq_s sw_thing sw_second, show decide (Str.ofString "thing" = Str.ofString "second") = false by decide +kernel]; cases neg <;> rfl
theorem te_thing_to : rEqD neg (.str (Str.ofString "thing")) (.str (Str.ofString "to")) O Q = Q (.bl neg) O := by
  rw [rEq_s sw_thing sw_to, show decide (Str.ofString "thing" = Str.ofString "to") = false by decide +kernel]; cases neg <;> rfl
theorem te_thing_both : rEqD neg (.str (Str.ofString "thing")) (.str (Str.ofString "both")) O Q = Q (.bl neg) O := by
  rw [rEq_s sw_thing sw_both, show decide (Str.ofString "thing" = Str.ofString "both") = false by decide +kernel]; cases neg <;> rfl
theorem te_thing_one : rEqD neg (.str (Str.ofString "thing")) (.str (Str.ofString "one")) O Q = Q (.bl neg) O := by
  rw [rEq_s sw_thing sw_one, show decide (Str.ofString "thing" = Str.ofString "one") = false by decide +kernel]; cases neg <;> rfl
theorem te_thing_mark : rEqD neg (.str (Str.ofString "thing")) (.str (Str.ofString "mark")) O Q = Q (.bl neg) O := by
  rw [rEq_s sw_thing sw_mark, show decide (Str.ofString "thing" = Str.ofString "mark") = false by decide +kernel]; cases neg <;> rfl
theorem te_thing_name : rEqD neg (.str (Str.ofString "thing")) (.str (Str.ofString "name")) O Q = Q (.bl neg) O := by
  rw [rEq_s sw_thing sw_name, show decide (Str.ofString "thing" = Str.ofString "name") = false by decide +kernel]; cases neg <;> rfl
theorem te_thing_thing : rEqD neg (.str (Str.ofString "thing")) (.str (Str.ofString "thing")) O Q = Q (.bl !neg) O := by
  rw [rEq_s sw_thing sw_thing, show decide (Str.ofString "thing" = Str.ofString "thing") = true by decide +kernel]; cases neg <;> rfl
theorem te_thing_at : rEqD neg (.str (Str.ofString "thing")) (.str (Str.ofString "at")) O Q = Q (.bl neg) O := by
  rw [rEq_s sw_thing sw_at, show decide (Str.ofString "thing" = Str.ofString "at") = false by decide +kernel]; cases neg <;> rfl
theorem te_take_take : rEqD neg (.str (Str.ofString "take")) (.str (Str.ofString "take")) O Q = Q (.bl !neg) O := by
  rw [rEq_s sw_take sw_take, show decide (Str.ofString "take" = Str.ofString "take") = true by decide +kernel]; cases neg <;> rfl
theorem te_take_give : rEqD neg (.str (Str.ofString "take")) (.str (Str.ofString "give")) O Q = Q (.bl neg) O := by
  rw [rEq_s sw_take sw_give, show decide (Str.ofString "take" = Str.ofString "give") = false by decide +kernel]; cases neg <;> rfl
theorem te_take_pair : rEqD neg (.str (Str.ofString "take")) (.str (Str.ofString "pair")) O Q = Q (.bl neg) O := by
  rw [rEq_s sw_take sw_pair, show decide (Str.ofString "take" = Str.ofString "pair") = false by decide +kernel]; cases neg <;> rfl
theorem te_take_first : rEqD neg (.str (Str.ofString "take")) (.str (Str.ofString "first")) O Q = Q (.bl neg) O := by
  rw [rEq_s sw_take sw_first, show decide (Str.ofString "take" = Str.ofString "first") = false by decide +kernel]; cases neg <;> rfl
theorem te_take_second : rEqD neg (.str (Str.ofString "take")) (.str (Str.ofString "second")) O Q = Q (.bl neg) O := by
  rw [rEq_s sw_take sw_second, show decide (Str.ofString "take" = Str.ofString "second") = false by decide +kernel]; cases neg <;> rfl
theorem te_take_to : rEqD neg (.str (Str.ofString "take")) (.str (Str.ofString "to")) O Q = Q (.bl neg) O := by
  rw [rEq_s sw_take sw_to, show decide (Str.ofString "take" = Str.ofString "to") = false by decide +kernel]; cases neg <;> rfl
theorem te_take_both : rEqD neg (.str (Str.ofString "take")) (.str (Str.ofString "both")) O Q = Q (.bl neg) O := by
  rw [rEq_s sw_take sw_both, show decide (Str.ofString "take" = Str.ofString "both") = false by decide +kernel]; cases neg <;> rfl
theorem te_take_one : rEqD neg (.str (Str.ofString "take")) (.str (Str.ofString "one")) O Q = Q (.bl neg) O := by
  rw [rEq_s sw_take sw_one, show decide (Str.ofString "take" = Str.ofString "one") = false by decide +kernel]; cases neg <;> rfl
theorem te_take_mark : rEqD neg (.str (Str.ofString "take")) (.str (Str.ofString "mark")) O Q = Q (.bl neg) O := by
  rw [rEq_s sw_take sw_mark, show decide (Str.ofString "take" = Str.ofString "mark") = false by decide +kernel]; cases neg <;> rfl
theorem te_take_name : rEqD neg (.str (Str.ofString "take")) (.str (Str.ofString "name")) O Q = Q (.bl neg) O := by
  rw [rEq_s sw_take sw_name, show decide (Str.ofString "take" = Str.ofString "name") = false by decide +kernel]; cases neg <;> rfl
theorem te_take_thing : rEqD neg (.str (Str.ofString "take")) (.str (Str.ofString "thing")) O Q = Q (.bl neg) O := by
  rw [rEq_s sw_take sw_thing, show decide (Str.ofString "take" = Str.ofString "thing") = false by decide +kernel]; cases neg <;> rfl
theorem te_take_at : rEqD neg (.str (Str.ofString "take")) (.str (Str.ofString "at")) O Q = Q (.bl neg) O := by
  rw [rEq_s sw_take sw_at, show decide (Str.ofString "take" = Str.ofString "at") = false by decide +kernel]; cases neg <;> rfl
theorem te_give_take : rEqD neg (.str (Str.ofString "give")) (.str (Str.ofString "take")) O Q = Q (.bl neg) O := by
  rw [rEq_s sw_give sw_take, show decide (Str.ofString "give" = Str.ofString "take") = false by decide +kernel]; cases neg <;> rfl
theorem te_give_give : rEqD neg (.str (Str.ofString "give")) (.str (Str.ofString "give")) O Q = Q (.bl !neg) O := by
  rw [rEq_s sw_give sw_give, show decide (Str.ofString "give" = Str.ofString "give") = true by decide +kernel]; cases neg <;> rfl
theorem te_give_pair : rEqD neg (.str (Str.ofString "give")) (.str (Str.ofString "pair")) O Q = Q (.bl neg) O := by
  rw [rEq_s sw_give sw_pair, show decide (Str.ofString "give" = Str.ofString "pair") = false by decide +kernel]; cases neg <;> rfl
theorem te_give_first : rEqD neg (.str (Str.ofString "give")) (.str (Str.ofString "first")) O Q = Q (.bl neg) O := by
  rw [rEq_s sw_give sw_first, show decide (Str.ofString "give" = Str.ofString "first") = false by decide +kernel]; cases neg <;> rfl
theorem te_give_second : rEqD neg (.str (Str.ofString "give")) (.str (Str.ofString "second")) O Q = Q (.bl neg) O := by
  rw [rEq_s sw_give sw_second, show decide (Str.ofString "give" = Str.ofString "second") = false by decide +kernel]; cases neg <;> rfl
theorem te_give_to : rEqD neg (.str (Str.ofString "give")) (.str (Str.ofString "to")) O Q = Q (.bl neg) O := by
  rw [rEq_s sw_give sw_to, show decide (Str.ofString "give" = Str.ofString "to") = false by decide +kernel]; cases neg <;> rfl
theorem te_give_both : rEqD neg (.str (Str.ofString "give")) (.str (Str.ofString "both")) O Q = Q (.bl neg) O := by
  rw [rEq_s sw_give sw_both, show decide (Str.ofString "give" = Str.ofString "both") = false by decide +kernel]; cases neg <;> rfl
theorem te_give_one : rEqD neg (.str (Str.ofString "give")) (.str (Str.ofString "one")) O Q = Q (.bl neg) O := by
  rw [rEq_s sw_give sw_one, show decide (Str.ofString "give" = Str.ofString "one") = false by decide +kernel]; cases neg <;> rfl
theorem te_give_mark : rEqD neg (.str (Str.ofString "give")) (.str (Str.ofString "mark")) O Q = Q (.bl neg) O := by
  rw [rEq_s sw_give sw_mark, show decide (Str.ofString "give" = Str.ofString "mark") = false by decide +kernel]; cases neg <;> rfl
theorem te_give_name : rEqD neg (.str (Str.ofString "give")) (.str (Str.ofString "name")) O Q = Q (.bl neg) O := by
  rw [rEq_s sw_give sw_name, show decide (Str.ofString "give" = Str.ofString "name") = false by decide +kernel]; cases neg <;> rfl
theorem te_give_thing : rEqD neg (.str (Str.ofString "give")) (.str (Str.ofString "thing")) O Q = Q (.bl neg) O := by
  rw [rEq_s sw_give sw_thing, show decide (Str.ofString "give" = Str.ofString "thing") = false by decide +kernel]; cases neg <;> rfl
theorem te_give_at : rEqD neg (.str (Str.ofString "give")) (.str (Str.ofString "at")) O Q = Q (.bl neg) O := by
  rw [rEq_s sw_give sw_at, show decide (Str.ofString "give" = Str.ofString "at") = false by decide +kernel]; cases neg <;> rfl
theorem te_pair_take : rEqD neg (.str (Str.ofString "pair")) (.str (Str.ofString "take")) O Q = Q (.bl neg) O := by
  rw [rEq_s sw_pair sw_take, show decide (Str.ofString "pair" = Str.ofString "take") = false by decide +kernel]; cases neg <;> rfl
theorem te_pair_give : rEqD neg (.str (Str.ofString "pair")) (.str (Str.ofString "give")) O Q = Q (.bl neg) O := by
  rw [rEq_s sw_pair sw_give, show decide (Str.ofString "pair" = Str.ofString "give") = false by decide +kernel]; cases neg <;> rfl
theorem te_pair_pair : rEqD neg (.str (Str.ofString "pair")) (.str (Str.ofString "pair")) O Q = Q (.bl !neg) O := by
  rw [rEq_s sw_pair sw_pair, show decide (Str.ofString "pair" = Str.ofString "pair") = true by decide +kernel]; cases neg <;> rfl
theorem te_pair_first : rEqD neg (.str (Str.ofString "pair")) (.str (Str.ofString "first")) O Q = Q (.bl neg) O := by
  rw [rEq_s sw_pair sw_first, show decide (Str.ofString "pair" = Str.ofString "first") = false by decide +kernel]; cases neg <;> rfl
theorem te_pair_second : rEqD neg (.str (Str.ofString "pair")) (.str (Str.ofString "second")) O Q = Q (.bl neg) O := by
  rw [rEq_s sw_pair sw_second, show decide (Str.ofString "pair" = Str.ofString "second") = false by decide +kernel]; cases neg <;> rfl
theorem te_pair_to : rEqD neg (.str (Str.ofString "pair")) (.str (Str.ofString "to")) O Q = Q (.bl neg) O := by
  rw [rEq_s sw_pair sw_to, show decide (Str.ofString "pair" = Str.ofString "to") = false by decide +kernel]; cases neg <;> rfl
theorem te_pair_both : rEqD neg (.str (Str.ofString "pair")) (.str (Str.ofString "both")) O Q = Q (.bl neg) O := by
  rw [rEq_s sw_pair sw_both, show decide (Str.ofString "pair" = Str.ofString "both") = false by decide +kernel]; cases neg <;> rfl
theorem te_pair_one : rEqD neg (.str (Str.ofString "pair")) (.str (Str.ofString "one")) O Q = Q (.bl neg) O := by
  rw [rEq_s sw_pair sw_one, show decide (Str.ofString "pair" = Str.ofString "one") = false by decide +kernel]; cases neg <;> rfl
theorem te_pair_mark : rEqD neg (.str (Str.ofString "pair")) (.str (Str.ofString "mark")) O Q = Q (.bl neg) O := by
  rw [rEq_s sw_pair sw_mark, show decide (Str.ofString "pair" = Str.ofString "mark") = false by decide +kernel]; cases neg <;> rfl
theorem te_pair_name : rEqD neg (.str (Str.ofString "pair")) (.str (Str.ofString "name")) O Q = Q (.bl neg) O := by
  rw [rEq_s sw_pair sw_name, show decide (Str.ofString "pair" = Str.ofString "name") = false by decide +kernel]; cases neg <;> rfl
theorem te_pair_thing : rEqD neg (.str (Str.ofString "pair")) (.str (Str.ofString "thing")) O Q = Q (.bl neg) O := by
  rw [rEq_s sw_pair sw_thing, show decide (Str.ofString "pair" = Str.ofString "thing") = false by decide +kernel]; cases neg <;> rfl
theorem te_pair_at : rEqD neg (.str (Str.ofString "pair")) (.str (Str.ofString "at")) O Q = Q (.bl neg) O := by
  rw [rEq_s sw_pair sw_at, show decide (Str.ofString "pair" = Str.ofString "at") = false by decide +kernel]; cases neg <;> rfl
theorem te_first_take : rEqD neg (.str (Str.ofString "first")) (.str (Str.ofString "take")) O Q = Q (.bl neg) O := by
  rw [rEq_s sw_first sw_take, show decide (Str.ofString "first" = Str.ofString "take") = false by decide +kernel]; cases neg <;> rfl
theorem te_first_give : rEqD neg (.str (Str.ofString "first")) (.str (Str.ofString "give")) O Q = Q (.bl neg) O := by
  rw [rEq_s sw_first sw_give, show decide (Str.ofString "first" = Str.ofString "give") = false by decide +kernel]; cases neg <;> rfl
theorem te_first_pair : rEqD neg (.str (Str.ofString "first")) (.str (Str.ofString "pair")) O Q = Q (.bl neg) O := by
  rw [rEq_s sw_first sw_pair, show decide (Str.ofString "first" = Str.ofString "pair") = false by decide +kernel]; cases neg <;> rfl
theorem te_first_first : rEqD neg (.str (Str.ofString "first")) (.str (Str.ofString "first")) O Q = Q (.bl !neg) O := by
  rw [rEq_s sw_first sw_first, show decide (Str.ofString "first" = Str.ofString "first") = true by decide +kernel]; cases neg <;> rfl
theorem te_first_second : rEqD neg (.str (Str.ofString "first")) (.str (Str.ofString "second")) O Q = Q (.bl neg) O := by
  rw [rEq_s sw_first sw_second, show decide (Str.ofString "first" = Str.ofString "second") = false by decide +kernel]; cases neg <;> rfl
theorem te_first_to : rEqD neg (.str (Str.ofString "first")) (.str (Str.ofString "to")) O Q = Q (.bl neg) O := by
  rw [rEq_s sw_first sw_to, show decide (Str.ofString "first" = Str.ofString "to") = false by decide +kernel]; cases neg <;> rfl
theorem te_first_both : rEqD neg (.str (Str.ofString "first")) (.str (Str.ofString "both")) O Q = Q (.bl neg) O := by
  rw [rEq_s sw_first sw_both, show decide (Str.ofString "first" = Str.ofString "both") = false by decide +kernel]; cases neg <;> rfl
theorem te_first_one : rEqD neg (.str (Str.ofString "first")) (.str (Str.ofString "one")) O Q = Q (.bl neg) O := by
  rw [rEq_s sw_first sw_one, show decide (Str.ofString "first" = Str.ofString "one") = false by decide +kernel]; cases neg <;> rfl
theorem te_first_mark : rEqD neg (.str (Str.ofString "first")) (.str (Str.ofString "mark")) O Q = Q (.bl neg) O := by
  rw [rEq_s sw_first sw_mark, show decide (Str.ofString "first" = Str.ofString "mark") = false by decide +kernel]; cases neg <;> rfl
theorem te_first_name : rEqD neg (.str (Str.ofString "first")) (.str (Str.ofString "name")) O Q = Q (.bl neg) O := by
  rw [rEq_s sw_first sw_name, show decide (Str.ofString "first" = Str.ofString "name") = false by decide +kernel]; cases neg <;> rfl
theorem te_first_thing : rEqD neg (.str (Str.ofString "first")) (.str (Str.ofString "thing")) O Q = Q (.bl neg) O := by
  rw [rEq_s sw_first sw_thing, show decide (Str.ofString "first" = Str.ofString "thing") = false by decide +kernel]; cases neg <;> rfl
theorem te_first_at : rEqD neg (.str (Str.ofString "first")) (.str (Str.ofString "at")) O Q = Q (.bl neg) O := by
  rw [rEq_s sw_first sw_at, show decide (Str.ofString "first" = Str.ofString "at") = false by decide +kernel]; cases neg <;> rfl
theorem te_second_take : rEqD neg (.str (Str.ofString "second")) (.str (Str.ofString "take")) O Q = Q (.bl neg) O := by
  rw [rEq_s sw_second sw_take, show decide (Str.ofString "second" = Str.ofString "take") = false by decide +kernel]; cases neg <;> rfl
theorem te_second_give : rEqD neg (.str (Str.ofString "second")) (.str (Str.ofString "give")) O Q = Q (.bl neg) O := by
  rw [rEq_s sw_second sw_give, show decide (Str.ofString "second" = Str.ofString "give") = false by decide +kernel]; cases neg <;> rfl
theorem te_second_pair : rEqD neg (.str (Str.ofString "second")) (.str (Str.ofString "pair")) O Q = Q (.bl neg) O := by
  rw [rEq_s sw_second sw_pair, show decide (Str.ofString "second" = Str.ofString "pair") = false by decide +kernel]; cases neg <;> rfl
theorem te_second_first : rEqD neg (.str (Str.ofString "second")) (.str (Str.ofString "first")) O Q = Q (.bl neg) O := by
  rw [rEq_s sw_second sw_first, show decide (Str.ofString "second" = Str.ofString "first") = false by decide +kernel]; cases neg <;> rfl
theorem te_second_second : rEqD neg (.str (Str.ofString "second")) (.str (Str.ofString "second")) O Q = Q (.bl !neg) O := by
  rw [rEq_s sw_second sw_second, show decide (Str.ofString "second" = Str.ofString "second") = true by decide +kernel]; cases neg <;> rfl
theorem te_second_to : rEqD neg (.str (Str.ofString "second")) (.str (Str.ofString "to")) O Q = Q (.bl neg) O := by
  rw [rEq_s sw_second sw_to, show decide (Str.ofString "second" = Str.ofString "to") = false by decide +kernel]; cases neg <;> rfl
theorem te_second_both : rEqD neg (.str (Str.ofString "second")) (.str (Str.ofString "both")) O Q = Q (.bl neg) O := by
  rw [rEq_s sw_second sw_both, show decide (Str.ofString "second" = Str.ofString "both") = false by decide +kernel]; cases neg <;> rfl
theorem te_second_one : rEqD neg (.str (Str.ofString "second")) (.str (Str.ofString "one")) O Q = Q (.bl neg) O := by
  rw [rEq_s sw_second sw_one, show decide (Str.ofString "second" = Str.ofString "one") = false by decide +kernel]; cases neg <;> rfl
theorem te_second_mark : rEqD neg (.str (Str.ofString "second")) (.str (Str.ofString "mark")) O Q = Q (.bl neg) O := by
  rw [rEq_s sw_second sw_mark, show decide (Str.ofString "second" = Str.ofString "mark") = false by decide +kernel]; cases neg <;> rfl
theorem te_second_name : rEqD neg (.str (Str.ofString "second")) (.str (Str.ofString "name")) O Q = Q (.bl neg) O := by
  rw [rEq_s sw_second sw_name, show decide (Str.ofString "second" = Str.ofString "name") = false by decide +kernel]; cases neg <;> rfl
theorem te_second_thing : rEqD neg (.str (Str.ofString "second")) (.str (Str.ofString "thing")) O Q = Q (.bl neg) O := by
  rw [rEq_s sw_second sw_thing, show decide (Str.ofString "second" = Str.ofString "thing") = false by decide +kernel]; cases neg <;> rfl
theorem te_second_at : rEqD neg (.str (Str.ofString "second")) (.str (Str.ofString "at")) O Q = Q (.bl neg) O := by
  rw [rEq_s sw_second sw_at, show decide (Str.ofString "second" = Str.ofString "at") = false by decide +kernel]; cases neg <;> rfl
theorem te_mark_take : rEqD neg (.str (Str.ofString "mark")) (.str (Str.ofString "take")) O Q = Q (.bl neg) O := by
  rw [rEq_s sw_mark sw_take, show decide (Str.ofString "mark" = Str.ofString "take") = false by decide +kernel]; cases neg <;> rfl
theorem te_mark_give : rEqD neg (.str (Str.ofString "mark")) (.str (Str.ofString "give")) O Q = Q (.bl neg) O := by
  rw [rEq_s sw_mark sw_give, show decide (Str.ofString "mark" = Str.ofString "give") = false by decide +kernel]; cases neg <;> rfl
theorem te_mark_pair : rEqD neg (.str (Str.ofString "mark")) (.str (Str.ofString "pair")) O Q = Q (.bl neg) O := by
  rw [rEq_s sw_mark sw_pair, show decide (Str.ofString "mark" = Str.ofString "pair") = false by decide +kernel]; cases neg <;> rfl
theorem te_mark_first : rEqD neg (.str (Str.ofString "mark")) (.str (Str.ofString "first")) O Q = Q (.bl neg) O := by
  rw [rEq_s sw_mark sw_first, show decide (Str.ofString "mark" = Str.ofString "first") = false by decide +kernel]; cases neg <;> rfl
theorem te_mark_second : rEqD neg (.str (Str.ofString "mark")) (.str (Str.ofString "second")) O Q = Q (.bl neg) O := by
  rw [rEq_s sw_mark sw_second, show decide (Str.ofString "mark" = Str.ofString "second") = false by decide +kernel]; cases neg <;> rfl
theorem te_mark_to : rEqD neg (.str (Str.ofString "mark")) (.str (Str.ofString "to")) O Q = Q (.bl neg) O := by
  rw [rEq_s sw_mark sw_to, show decide (Str.ofString "mark" = Str.ofString "to") = false by decide +kernel]; cases neg <;> rfl
theorem te_mark_both : rEqD neg (.str (Str.ofString "mark")) (.str (Str.ofString "both")) O Q = Q (.bl neg) O := by
  rw [rEq_s sw_mark sw_both, show decide (Str.ofString "mark" = Str.ofString "both") = false by decide +kernel]; cases neg <;> rfl
theorem te_mark_one : rEqD neg (.str (Str.ofString "mark")) (.str (Str.ofString "one")) O Q = Q (.bl neg) O := by
  rw [rEq_s sw_mark sw_one, show decide (Str.ofString "mark" = Str.ofString "one") = false by decide +kernel]; cases neg <;> rfl
theorem te_mark_mark : rEqD neg (.str (Str.ofString "mark")) (.str (Str.ofString "mark")) O Q = Q (.bl !neg) O := by
  rw [rEq_s sw_mark sw_mark, show decide (Str.ofString "mark" = Str.ofString "mark") = true by decide +kernel]; cases neg <;> rfl
theorem te_mark_name : rEqD neg (.str (Str.ofString "mark")) (.str (Str.ofString "name")) O Q = Q (.bl neg) O := by
  rw [rEq_s sw_mark sw_name, show decide (Str.ofString "mark" = Str.ofString "name") = false by decide +kernel]; cases neg <;> rfl
theorem te_mark_thing : rEqD neg (.str (Str.ofString "mark")) (.str (Str.ofString "thing")) O Q = Q (.bl neg) O := by
  rw [rEq_s sw_mark sw_thing, show decide (Str.ofString "mark" = Str.ofString "thing") = false by decide +kernel]; cases neg <;> rfl
theorem te_mark_at : rEqD neg (.str (Str.ofString "mark")) (.str (Str.ofString "at")) O Q = Q (.bl neg) O := by
  rw [rEq_s sw_mark sw_at, show decide (Str.ofString "mark" = Str.ofString "at") = false by decide +kernel]; cases neg <;> rfl
theorem te_one_take : rEqD neg (.str (Str.ofString "one")) (.str (Str.ofString "take")) O Q = Q (.bl neg) O := by
  rw [rEq_s sw_one sw_take, show decide (Str.ofString "one" = Str.ofString "take") = false by decide +kernel]; cases neg <;> rfl
theorem te_one_give : rEqD neg (.str (Str.ofString "one")) (.str (Str.ofString "give")) O Q = Q (.bl neg) O := by
  rw [rEq_s sw_one sw_give, show decide (Str.ofString "one" = Str.ofString "give") = false by decide +kernel]; cases neg <;> rfl
theorem te_one_pair : rEqD neg (.str (Str.ofString "one")) (.str (Str.ofString "pair")) O Q = Q (.bl neg) O := by
  rw [rEq_s sw_one sw_pair, show decide (Str.ofString "one" = Str.ofString "pair") = false by decide +kernel]; cases neg <;> rfl
theorem te_one_first : rEqD neg (.str (Str.ofString "one")) (.str (Str.ofString "first")) O Q = Q (.bl neg) O := by
  rw [rEq_s sw_one sw_first, show decide (Str.ofString "one" = Str.ofString "first") = false by decide +kernel]; cases neg <;> rfl
theorem te_one_second : rEqD neg (.str (Str.ofString "one")) (.str (Str.ofString "second")) O Q = Q (.bl neg) O := by
  rw [rEq_s sw_one sw_second, show decide (Str.ofString "one" = Str.ofString "second") = false by decide +kernel]; cases neg <;> rfl
theorem te_one_to : rEqD neg (.str (Str.ofString "one")) (.str (Str.ofString "to")) O Q = Q (.bl neg) O := by
  rw [rEq_s sw_one sw_to, show decide (Str.ofString "one" = Str.ofString "to") = false by decide +kernel]; cases neg <;> rfl
theorem te_one_both : rEqD neg (.str (Str.ofString "one")) (.str (Str.ofString "both")) O Q = Q (.bl neg) O := by
  rw [rEq_s sw_one sw_both, show decide (Str.ofString "one" = Str.ofString "both") = false by decide +kernel]; cases neg <;> rfl
theorem te_one_one : rEqD neg (.str (Str.ofString "one")) (.str (Str.ofString "one")) O Q = Q (.bl !neg) O := by
  rw [rEq_s sw_one sw_one, show decide (Str.ofString "one" = Str.ofString "one") = true by decide +kernel]; cases neg <;> rfl
theorem te_one_mark : rEqD neg (.str (Str.ofString "one")) (.str (Str.ofString "mark")) O Q = Q (.bl neg) O := by
  rw [rEq_s sw_one sw_mark, show decide (Str.ofString "one" = Str.ofString "mark") = false by decide +kernel]; cases neg <;> rfl
theorem te_one_name : rEqD neg (.str (Str.ofString "one")) (.str (Str.ofString "name")) O Q = Q (.bl neg) O := by
  rw [rEq_s sw_one sw_name, show decide (Str.ofString "one" = Str.ofString "name") = false by decide +kernel]; cases neg <;> rfl
theorem te_one_thing : rEqD neg (.str (Str.ofString "one")) (.str (Str.ofString "thing")) O Q = Q (.bl neg) O := by
  rw [rEq_s sw_one sw_thing, show decide (Str.ofString "one" = Str.ofString "thing") = false by decide +kernel]; cases neg <;> rfl
theorem te_one_at : rEqD neg (.str (Str.ofString "one")) (.str (Str.ofString "at")) O Q = Q (.bl neg) O := by
  rw [rEq_s sw_one sw_at, show decide (Str.ofString "one" = Str.ofString "at") = false by decide +kernel]; cases neg <;> rfl
theorem te_to_take : rEqD neg (.str (Str.ofString "to")) (.str (Str.ofString "take")) O Q = Q (.bl neg) O := by
  rw [rEq_s sw_to sw_take, show decide (Str.ofString "to" = Str.ofString "take") = false by decide +kernel]; cases neg <;> rfl
theorem te_to_give : rEqD neg (.str (Str.ofString "to")) (.str (Str.ofString "give")) O Q = Q (.bl neg) O := by
  rw [rEq_s sw_to sw_give, show decide (Str.ofString "to" = Str.ofString "give") = false by decide +kernel]; cases neg <;> rfl
theorem te_to_pair : rEqD neg (.str (Str.ofString "to")) (.str (Str.ofString "pair")) O Q = Q (.bl neg) O := by
  rw [rEq_s sw_to sw_pair, show decide (Str.ofString "to" = Str.ofString "pair") = false by decide +kernel]; cases neg <;> rfl
theorem te_to_first : rEqD neg (.str (Str.ofString "to")) (.str (Str.ofString "first")) O Q = Q (.bl neg) O := by
  rw [rEq_s sw_to sw_first, show decide (Str.ofString "to" = Str.ofString "first") = false by decide +kernel]; cases neg <;> rfl
theorem te_to_second : rEqD neg (.str (Str.ofString "to")) (.str (Str.ofString "second")) O Q = Q (.bl neg) O := by
  rw [rEq_s sw_to sw_second, show decide (Str.ofString "to" = Str.ofString "second") = false by decide +kernel]; cases neg <;> rfl
theorem te_to_to : rEqD neg (.str (Str.ofString "to")) (.str (Str.ofString "to")) O Q = Q (.bl !neg) O := by
  rw [rEq_s sw_to sw_to, show decide (Str.ofString "to" = Str.ofString "to") = true by decide +kernel]; cases neg <;> rfl
theorem te_to_both : rEqD neg (.str (Str.ofString "to")) (.str (Str.ofString "both")) O Q = Q (.bl neg) O := by
  rw [rEq_s sw_to sw_both, show decide (Str.ofString "to" = Str.ofString "both") = false by decide +kernel]; cases neg <;> rfl
theorem te_to_one : rEqD neg (.str (Str.ofString "to")) (.str (Str.ofString "one")) O Q = Q (.bl neg) O := by
  rw [rEq_s sw_to sw_one, show decide (Str.ofString "to" = Str.ofString "one") = false by decide +kernel]; cases neg <;> rfl
theorem te_to_mark : rEqD neg (.str (Str.ofString "to")) (.str (Str.ofString "mark")) O Q = Q (.bl neg) O := by
  rw [rEq_s sw_to sw_mark, show decide (Str.ofString "to" = Str.ofString "mark") = false by decide +kernel]; cases neg <;> rfl
theorem te_to_name : rEqD neg (.str (Str.ofString "to")) (.str (Str.ofString "name")) O Q = Q (.bl neg) O := by
  rw [rEq_s sw_to sw_name, show decide (Str.ofString "to" = Str.ofString "name") = false by decide +kernel]; cases neg <;> rfl
theorem te_to_thing : rEqD neg (.str (Str.ofString "to")) (.str (Str.ofString "thing")) O Q = Q (.bl neg) O := by
  rw [rEq_s sw_to sw_thing, show decide (Str.ofString "to" = Str.ofString "thing") = false by decide +kernel]; cases neg <;> rfl
theorem te_to_at : rEqD neg (.str (Str.ofString "to")) (.str (Str.ofString "at")) O Q = Q (.bl neg) O := by
  rw [rEq_s sw_to sw_at, show decide (Str.ofString "to" = Str.ofString "at") = false by decide +kernel]; cases neg <;> rfl
theorem te_both_take : rEqD neg (.str (Str.ofString "both")) (.str (Str.ofString "take")) O Q = Q (.bl neg) O := by
  rw [rEq_s sw_both sw_take, show decide (Str.ofString "both" = Str.ofString "take") = false by decide +kernel]; cases neg <;> rfl
theorem te_both_give : rEqD neg (.str (Str.ofString "both")) (.str (Str.ofString "give")) O Q = Q (.bl neg) O := by
  rw [rEq_s sw_both sw_give, show decide (Str.ofString "both" = Str.ofString "give") = false by decide +kernel]; cases neg <;> rfl
theorem te_both_pair : rEqD neg (.str (Str.ofString "both")) (.str (Str.ofString "pair")) O Q = Q (.bl neg) O := by
  rw [rEq_s sw_both sw_pair, show decide (Str.ofString "both" = Str.ofString "pair") = false by decide +kernel]; cases neg <;> rfl
theorem te_both_first : rEqD neg (.str (Str.ofString "both")) (.str (Str.ofString "first")) O Q = Q (.bl neg) O := by
  rw [rEq_s sw_both sw_first, show decide (Str.ofString "both" = Str.ofString "first") = false by decide +kernel]; cases neg <;> rfl
theorem te_both_second : rEqD neg (.str (Str.ofString "both")) (.str (Str.ofString "second")) O Q = Q (.bl neg) O := by
  rw [rEq_s sw_both sw_second, show decide (Str.ofString "both" = Str.ofString "second") = false by decide +kernel]; cases neg <;> rfl
theorem te_both_to : rEqD neg (.str (Str.ofString "both")) (.str (Str.ofString "to")) O Q = Q (.bl neg) O := by
  rw [rEq_s sw_both sw_to, show decide (Str.ofString "both" = Str.ofString "to") = false by decide +kernel]; cases neg <;> rfl
theorem te_both_both : rEqD neg (.str (Str.ofString "both")) (.str (Str.ofString "both")) O Q = Q (.bl !neg) O := by
  rw [rEq_s sw_both sw_both, show decide (Str.ofString "both" = Str.ofString "both") = true by decide +kernel]; cases neg <;> rfl
theorem te_both_one : rEqD neg (.str (Str.ofString "both")) (.str (Str.ofString "one")) O Q = Q (.bl neg) O := by
  rw [rEq_s sw_both sw_one, show decide (Str.ofString "both" = Str.ofString "one") = false by decide +kernel]; cases neg <;> rfl
theorem te_both_mark : rEqD neg (.str (Str.ofString "both")) (.str (Str.ofString "mark")) O Q = Q (.bl neg) O := by
  rw [rEq_s sw_both sw_mark, show decide (Str.ofString "both" = Str.ofString "mark") = false by decide +kernel]; cases neg <;> rfl
theorem te_both_name : rEqD neg (.str (Str.ofString "both")) (.str (Str.ofString "name")) O Q = Q (.bl neg) O := by
  rw [rEq_s sw_both sw_name, show decide (Str.ofString "both" = Str.ofString "name") = false by decide +kernel]; cases neg <;> rfl
theorem te_both_thing : rEqD neg (.str (Str.ofString "both")) (.str (Str.ofString "thing")) O Q = Q (.bl neg) O := by
  rw [rEq_s sw_both sw_thing, show decide (Str.ofString "both" = Str.ofString "thing") = false by decide +kernel]; cases neg <;> rfl
theorem te_both_at : rEqD neg (.str (Str.ofString "both")) (.str (Str.ofString "at")) O Q = Q (.bl neg) O := by
  rw [rEq_s sw_both sw_at, show decide (Str.ofString "both" = Str.ofString "at") = false by decide +kernel]; cases neg <;> rfl
theorem te_at_take : rEqD neg (.str (Str.ofString "at")) (.str (Str.ofString "take")) O Q = Q (.bl neg) O := by
  rw [rEq_s sw_at sw_take, show decide (Str.ofString "at" = Str.ofString "take") = false by decide +kernel]; cases neg <;> rfl
theorem te_at_give : rEqD neg (.str (Str.ofString "at")) (.str (Str.ofString "give")) O Q = Q (.bl neg) O := by
  rw [rEq_s sw_at sw_give, show decide (Str.ofString "at" = Str.ofString "give") = false by decide +kernel]; cases neg <;> rfl
theorem te_at_pair : rEqD neg (.str (Str.ofString "at")) (.str (Str.ofString "pair")) O Q = Q (.bl neg) O := by
  rw [rEq_s sw_at sw_pair, show decide (Str.ofString "at" = Str.ofString "pair") = false by decide +kernel]; cases neg <;> rfl
theorem te_at_first : rEqD neg (.str (Str.ofString "at")) (.str (Str.ofString "first")) O Q = Q (.bl neg) O := by
  rw [rEq_s sw_at sw_first, show decide (Str.ofString "at" = Str.ofString "first") = false by decide +kernel]; cases neg <;> rfl
theorem te_at_second : rEqD neg (.str (Str.ofString "at")) (.str (Str.ofString "second")) O Q = Q (.bl neg) O := by
  rw [rEq_s sw_at sw_second, show decide (Str.ofString "at" = Str.ofString "second") = false by decide +kernel]; cases neg <;> rfl
theorem te_at_to : rEqD neg (.str (Str.ofString "at")) (.str (Str.ofString "to")) O Q = Q (.bl neg) O := by
  rw [rEq_s sw_at sw_to, show decide (Str.ofString "at" = Str.ofString "to") = false by decide +kernel]; cases neg <;> rfl
theorem te_at_both : rEqD neg (.str (Str.ofString "at")) (.str (Str.ofString "both")) O Q = Q (.bl neg) O := by
  rw [rEq_s sw_at sw_both, show decide (Str.ofString "at" = Str.ofString "both") = false by decide +kernel]; cases neg <;> rfl
theorem te_at_one : rEqD neg (.str (Str.ofString "at")) (.str (Str.ofString "one")) O Q = Q (.bl neg) O := by
  rw [rEq_s sw_at sw_one, show decide (Str.ofString "at" = Str.ofString "one") = false by decide +kernel]; cases neg <;> rfl
theorem te_at_mark : rEqD neg (.str (Str.ofString "at")) (.str (Str.ofString "mark")) O Q = Q (.bl neg) O := by
  rw [rEq_s sw_at sw_mark, show decide (Str.ofString "at" = Str.ofString "mark") = false by decide +kernel]; cases neg <;> rfl
theorem te_at_name : rEqD neg (.str (Str.ofString "at")) (.str (Str.ofString "name")) O Q = Q (.bl neg) O := by
  rw [rEq_s sw_at sw_name, show decide (Str.ofString "at" = Str.ofString "name") = false by decide +kernel]; cases neg <;> rfl
theorem te_at_thing : rEqD neg (.str (Str.ofString "at")) (.str (Str.ofString "thing")) O Q = Q (.bl neg) O := by
  rw [rEq_s sw_at sw_thing, show decide (Str.ofString "at" = Str.ofString "thing") = false by decide +kernel]; cases neg <;> rfl
theorem te_at_at : rEqD neg (.str (Str.ofString "at")) (.str (Str.ofString "at")) O Q = Q (.bl !neg) O := by
  rw [rEq_s sw_at sw_at, show decide (Str.ofString "at" = Str.ofString "at") = true by decide +kernel]; cases neg <;> rfl
theorem ti4_name : rInD neg (.str (Str.ofString "name")) (.tup [.str (Str.ofString "give"), .str (Str.ofString "pair"), .str (Str.ofString "first"), .str (Str.ofString "second")]) O Q = Q (.bl neg) O := by
  have e := rIn_ws (neg := neg) (O := O) (Q := Q) (z := Str.ofString "name") (ts := [Str.ofString "give", Str.ofString "pair", Str.ofString "first", Str.ofString "second"]) (by decide +kernel) (by decide +kernel)
  rw [show decide (Str.ofString "name" ∈ ([Str.ofString "give", Str.ofString "pair", Str.ofString "first", Str.ofString "second"] : List Str)) = false by decide +kernel] at e
  exact e.trans (by cases neg <;> rfl)
theorem ti4_thing : rInD neg (.str (Str.ofString "thing")) (.tup [.str (Str.ofString "give"), .str (Str.ofString "pair"), .str (Str.ofString "first"), .str (Str.ofString "second")]) O Q = Q (.bl neg) O := by
  have e := rIn_ws (neg := neg) (O := O) (Q := Q) (z := Str.ofString "thing") (ts := [Str.ofString "give", Str.ofString "pair", Str.ofString "first", Str.ofString "second"]) (by decide +kernel) (by decide +kernel)
  rw [show decide (Str.ofString "thing" ∈ ([Str.ofString "give", Str.ofString "pair", Str.ofString "first", Str.ofString "second"] : List Str)) = false by decide +kernel] at e
  exact e.trans (by cases neg <;> rfl)
theorem ti4_take : rInD neg (.str (Str.ofString "take")) (.tup [.str (Str.ofString "give"), .str (Str.ofString "pair"), .str (Str.ofString "first"), .str (Str.ofString "second")]) O Q = Q (.bl neg) O := by
  have e := rIn_ws (neg := neg) (O := O) (Q := Q) (z := Str.ofString "take") (ts := [Str.ofString "give", Str.ofString "pair", Str.ofString "first", Str.ofString "second"]) (by decide +kernel) (by decide +kernel)
  rw [show decide (Str.ofString "take" ∈ ([Str.ofString "give", Str.ofString "pair", Str.ofString "first", Str.ofString "second"] : List Str)) = false by decide +kernel] at e
  exact e.trans (by cases neg <;> rfl)
theorem ti4_give : rInD neg (.str (Str.ofString "give")) (.tup [.str (Str.ofString "give"), .str (Str.ofString "pair"), .str (Str.ofString "first"), .str (Str.ofString "second")]) O Q = Q (.bl !neg) O := by
  have e := rIn_ws (neg := neg) (O := O) (Q := Q) (z := Str.ofString "give") (ts := [Str.ofString "give", Str.ofString "pair", Str.ofString "first", Str.ofString "second"]) (by decide +kernel) (by decide +kernel)
  rw [show decide (Str.ofString "give" ∈ ([Str.ofString "give", Str.ofString "pair", Str.ofString "first", Str.ofString "second"] : List Str)) = true by decide +kernel] at e
  exact e.trans (by cases neg <;> rfl)
theorem ti4_pair : rInD neg (.str (Str.ofString "pair")) (.tup [.str (Str.ofString "give"), .str (Str.ofString "pair"), .str (Str.ofString "first"), .str (Str.ofString "second")]) O Q = Q (.bl !neg) O := by
  have e := rIn_ws (neg := neg) (O := O) (Q := Q) (z := Str.ofString "pair") (ts := [Str.ofString "give", Str.ofString "pair", Str.ofString "first", Str.ofString "second"]) (by decide +kernel) (by decide +kernel)
  rw [show decide (Str.ofString "pair" ∈ ([Str.ofString "give", Str.ofString "pair", Str.ofString "first", Str.ofString "second"] : List Str)) = true by decide +kernel] at e
  exact e.trans (by cases neg <;> rfl)
theorem ti4_first : rInD neg (.str (Str.ofString "first")) (.tup [.str (Str.ofString "give"), .str (Str.ofString "pair"), .str (Str.ofString "first"), .str (Str.ofString "second")]) O Q = Q (.bl !neg) O := by
  have e := rIn_ws (neg := neg) (O := O) (Q := Q) (z := Str.ofString "first") (ts := [Str.ofString "give", Str.ofString "pair", Str.ofString "first", Str.ofString "second"]) (by decide +kernel) (by decide +kernel)
  rw [show decide (Str.ofString "first" ∈ ([Str.ofString "give", Str.ofString "pair", Str.ofString "first", Str.ofString "second"] : List Str)) = true by decide +kernel] at e
  exact e.trans (by cases neg <;> rfl)
theorem ti4_second : rInD neg (.str (Str.ofString "second")) (.tup [.str (Str.ofString "give"), .str (Str.ofString "pair"), .str (Str.ofString "first"), .str (Str.ofString "second")]) O Q = Q (.bl !neg) O := by
  have e := rIn_ws (neg := neg) (O := O) (Q := Q) (z := Str.ofString "second") (ts := [Str.ofString "give", Str.ofString "pair", Str.ofString "first", Str.ofString "second"]) (by decide +kernel) (by decide +kernel)
  rw [show decide (Str.ofString "second" ∈ ([Str.ofString "give", Str.ofString "pair", Str.ofString "first", Str.ofString "second"] : List Str)) = true by decide +kernel] at e
  exact e.trans (by cases neg <;> rfl)
theorem ti2_name : rInD neg (.str (Str.ofString "name")) (.tup [.str (Str.ofString "first"), .str (Str.ofString "second")]) O Q = Q (.bl neg) O := by
  have e := rIn_ws (neg := neg) (O := O) (Q := Q) (z := Str.ofString "name") (ts := [Str.ofString "first", Str.ofString "second"]) (by decide +kernel) (by decide +kernel)
  rw [show decide (Str.ofString "name" ∈ ([Str.ofString "first", Str.ofString "second"] : List Str)) = false by decide +kernel] at e
  exact e.trans (by cases neg <;> rfl)
theorem ti2_thing : rInD neg (.str (Str.ofString "thing")) (.tup [.str (Str.ofString "first"), .str (Str.ofString "second")]) O Q = Q (.bl neg) O := by
  have e := rIn_ws (neg := neg) (O := O) (Q := Q) (z := Str.ofString "thing") (ts := [Str.ofString "first", Str.ofString "second"]) (by decide +kernel) (by decide +kernel)
  rw [show decide (Str.ofString "thing" ∈ ([Str.ofString "first", Str.ofString "second"] : List Str)) = false by decide +kernel] at e
  exact e.trans (by cases neg <;> rfl)
theorem ti2_take : rInD neg (.str (Str.ofString "take")) (.tup [.str (Str.ofString "first"), .str (Str.ofString "second")]) O Q = Q (.bl neg) O := by
  have e := rIn_ws (neg := neg) (O := O) (Q := Q) (z := Str.ofString "take") (ts := [Str.ofString "first", Str.ofString "second"]) (by decide +kernel) (by decide +kernel)
  rw [show decide (Str.ofString "take" ∈ ([Str.ofString "first", Str.ofString "second"] : List Str)) = false by decide +kernel] at e
  exact e.trans (by cases neg <;> rfl)
theorem ti2_give : rInD neg (.str (Str.ofString "give")) (.tup [.str (Str.ofString "first"), .str (Str.ofString "second")]) O Q = Q (.bl neg) O := by
  have e := rIn_ws (neg := neg) (O := O) (Q := Q) (z := Str.ofString "give") (ts := [Str.ofString "first", Str.ofString "second"]) (by decide +kernel) (by decide +kernel)
  rw [show decide (Str.ofString "give" ∈ ([Str.ofString "first", Str.ofString "second"] : List Str)) = false by decide +kernel] at e
  exact e.trans (by cases neg <;> rfl)
theorem ti2_pair : rInD neg (.str (Str.ofString "pair")) (.tup [.str (Str.ofString "first"), .str (Str.ofString "second")]) O Q = Q (.bl neg) O := by
  have e := rIn_ws (neg := neg) (O := O) (Q := Q) (z := Str.ofString "pair") (ts := [Str.ofString "first", Str.ofString "second"]) (by decide +kernel) (by decide +kernel)
  rw [show decide (Str.ofString "pair" ∈ ([Str.ofString "first", Str.ofString "second"] : List Str)) = false by decide +kernel] at e
  exact e.trans (by cases neg <;> rfl)
theorem ti2_first : rInD neg (.str (Str.ofString "first")) (.tup [.str (Str.ofString "first"), .str (Str.ofString "second")]) O Q = Q (.bl !neg) O := by
  have e := rIn_ws (neg := neg) (O := O) (Q := Q) (z := Str.ofString "first") (ts := [Str.ofString "first", Str.ofString "second"]) (by decide +kernel) (by decide +kernel)
  rw [show decide (Str.ofString "first" ∈ ([Str.ofString "first", Str.ofString "second"] : List Str)) = true by decide +kernel] at e
  exact e.trans (by cases neg <;> rfl)
theorem ti2_second : rInD neg (.str (Str.ofString "second")) (.tup [.str (Str.ofString "first"), .str (Str.ofString "second")]) O Q = Q (.bl !neg) O := by
  have e := rIn_ws (neg := neg) (O := O) (Q := Q) (z := Str.ofString "second") (ts := [Str.ofString "first", Str.ofString "second"]) (by decide +kernel) (by decide +kernel)
  rw [show decide (Str.ofString "second" ∈ ([Str.ofString "first", Str.ofString "second"] : List Str)) = true by decide +kernel] at e
  exact e.trans (by cases neg <;> rfl)
end
/-! ### small sizes -/
theorem szT_0 : ((0 : Nat) ≤ sizeLine) = True := eq_true (sz_small (by decide))
theorem szT_1 : ((1 : Nat) ≤ sizeLine) = True := eq_true (sz_small (by decide))
theorem szT_2 : ((2 : Nat) ≤ sizeLine) = True := eq_true (sz_small (by decide))
theorem szT_3 : ((3 : Nat) ≤ sizeLine) = True := eq_true (sz_small (by decide))
theorem szT_4 : ((4 : Nat) ≤ sizeLine) = True := eq_true (sz_small (by decide))
theorem szT_5 : ((5 : Nat) ≤ sizeLine) = True := eq_true (sz_small (by decide))
theorem szT_6 : ((6 : Nat) ≤ sizeLine) = True := eq_true (sz_small (by decide))
theorem szT_7 : ((7 : Nat) ≤ sizeLine) = True := eq_true (sz_small (by decide))
theorem szT_8 : ((8 : Nat) ≤ sizeLine) = True := eq_true (sz_small (by decide))
theorem szT_9 : ((9 : Nat) ≤ sizeLine) = True := eq_true (sz_small (by decide))
theorem szT_10 : ((10 : Nat) ≤ sizeLine) = True := eq_true (sz_small (by decide))
theorem szT_11 : ((11 : Nat) ≤ sizeLine) = True := eq_true (sz_small (by decide))
theorem szT_12 : ((12 : Nat) ≤ sizeLine) = True := eq_true (sz_small (by decide))
/-! ### programs -/
inductive Pg where
  | nm (x : Str) | thing | take (x : Str) (k : Kd) (b : Pg) | give (f a : Pg) | pair (a b : Pg) | first (p : Pg) | second (p : Pg)
  deriving DecidableEq, Inhabited
def dP : Pg → D
  | .nm x => .tup [.str "name", .str x]
  | .thing => .tup [.str "thing"]
  | .take x k b => .tup [.str "take", .str x, dK k, dP b]
  | .give f a => .tup [.str "give", dP f, dP a]
  | .pair a b => .tup [.str "pair", dP a, dP b]
  | .first p => .tup [.str "first", dP p]
  | .second p => .tup [.str "second", dP p]
def Pg.ins : Pg → List Pg
  | .nm _ => []
  | .thing => []
  | .take _ _ b => [b]
  | .give f a => [f, a]
  | .pair a b => [a, b]
  | .first p => [p]
  | .second p => [p]
def Pg.hgt : Pg → Nat
  | .nm _ => 0
  | .thing => 0
  | .take _ _ b => b.hgt + 1
  | .give f a => max f.hgt a.hgt + 1
  | .pair a b => max a.hgt b.hgt + 1
  | .first p => p.hgt + 1
  | .second p => p.hgt + 1
def Pg.isTake : Pg → Bool
  | .take .. => true
  | _ => false
def Pg.isPair : Pg → Bool
  | .pair .. => true
  | _ => false
def Pg.can : Pg → Bool
  | .give f _ => f.isTake
  | .first p => p.isPair
  | .second p => p.isPair
  | _ => false
/-- the places at which a step can be done -/
def plc : Pg → List Int → List (List Int)
  | .nm _, _ => []
  | .thing, _ => []
  | .take _ _ b, pl => plc b (pl ++ [0])
  | .give f a, pl => (if f.isTake then [pl] else []) ++ plc f (pl ++ [0]) ++ plc a (pl ++ [1])
  | .pair a b, pl => plc a (pl ++ [0]) ++ plc b (pl ++ [1])
  | .first p, pl => (if p.isPair then [pl] else []) ++ plc p (pl ++ [0])
  | .second p, pl => (if p.isPair then [pl] else []) ++ plc p (pl ++ [0])
def plcs : List Pg → Nat → List Int → List (List Int)
  | [], _, _ => []
  | q :: qs, i, pl => plc q (pl ++ [(i : Int)]) ++ plcs qs (i + 1) pl
theorem plc_eq (p : Pg) (pl : List Int) : plc p pl = (if p.can then [pl] else []) ++ plcs p.ins 0 pl := by
  cases p <;> simp [plc, Pg.can, Pg.ins, plcs] <;> rfl
theorem ins_cases (p : Pg) : p.ins = [] ∨ (∃ x, p.ins = [x]) ∨ ∃ x y, p.ins = [x, y] := by
  cases p <;> simp [Pg.ins]
theorem ins_hgt {p q : Pg} (h : q ∈ p.ins) : q.hgt < p.hgt := by
  cases p <;> simp only [Pg.ins, List.mem_cons, List.not_mem_nil, or_false] at h
  · subst h; simp [Pg.hgt]
  · rcases h with rfl | rfl <;> simp only [Pg.hgt] <;> omega
  · rcases h with rfl | rfl <;> simp only [Pg.hgt] <;> omega
  · subst h; simp [Pg.hgt]
  · subst h; simp [Pg.hgt]
theorem sz_21 {n : Nat} (h : n ≤ 4194304) : n ≤ sizeLine := Nat.le_trans h (by decide)
abbrev dI (q : List Int) : D := .lst (q.map .int)
theorem enum0 : enumD [] = [] := rfl
theorem enum1 (x : D) : enumD [x] = [.tup [.int 0, x]] := rfl
theorem enum2 (x y : D) : enumD [x, y] = [.tup [.int 0, x], .tup [.int 1, y]] := rfl
/-! ### rows of names -/
/-- what a name is by a row: the last one counts -/
def envOf (kn : List (Str × Kd)) (x : Str) : Option Kd := (kn.reverse.find? fun q => decide (q.1 = x)).map (·.2)
theorem envOf_snoc (kn : List (Str × Kd)) (y : Str) (k : Kd) (x : Str) : envOf (kn ++ [(y, k)]) x = if y = x then some k else envOf kn x := by
  unfold envOf
  rw [List.reverse_append, List.reverse_singleton, List.singleton_append, List.find?_cons]
  by_cases h : y = x
  · simp [h]
  · simp [h]
end Kf
namespace Kf
open PySem PySem.Spec L2
open PyProof.Rows hiding St
local macro_rules | `(tactic| walk_at "kf") => `(tactic| simp (config := { failIfUnchanged := false }) only [startD, gSeq, gIf, gRet, gNext, gSet, gAsg, gDrop, gRetF, gRetN, gFor, gSetIx, gBreak, fTest, fOp, fVar, envGet_s, patGet_s, fC, fCB, fCons, fNil, fCall, fAnd, fOr, fNot, fAndV, fOrV, fNotV, fIf, fTup, fLst, fLstO, fChain, fUn, fBM, fBM0, fPool, rPool_i, fSl, fPart, fNoPart, asI_i, rSl_l, fiRng1, fiRng2, fiList, fiTup, fiStr, fiEnum, fiZip, fiRev, asL_l, asT_t, asSg_s, asR1_i, asR2_i, asL1_l, asL2_l, fLc, fLcO, fYes, wipeD, lcD, isi_i_int, isi_i_bool, isi_i_str, isi_i_tuple, isi_i_list, isi_i_dict, isi_b_int, isi_b_bool, isi_b_str, isi_b_tuple, isi_b_list, isi_b_dict, isi_s_int, isi_s_bool, isi_s_str, isi_s_tuple, isi_s_list, isi_s_dict, isi_t_int, isi_t_bool, isi_t_str, isi_t_tuple, isi_t_list, isi_t_dict, isi_l_int, isi_l_bool, isi_l_str, isi_l_tuple, isi_l_list, isi_l_dict, isi_n_int, isi_n_bool, isi_n_str, isi_n_tuple, isi_n_list, isi_n_dict, isi_d_int, isi_d_bool, isi_d_str, isi_d_tuple, isi_d_list, isi_d_dict,
  deref_tup, deref_lst, deref_int, deref_str, deref_bl, deref_non, deref_scr, rLt_i, rLt_s, rLe_i, rLe_s, rInts_i, rInts0_i, rAdd_i, rAdd_s, rAdd_l, rAdd_t, rCatO_l, rNeg_i, rLen_t, rLen_l, rLen_c, rLen_s, rMax_i, rMin_i, rInt_i, rInt_b, rDivmod_i, gAug, rStr_i, rList_l, rList_t, rListO_l, rListO_t, rTup_l, rTup_t,
  rIx_t0, rIx_t1, rIx_t2, rIx_t3, rIx_l0, rIx_l1, rIx_l2, rIsN_x, isNon_t, isNon_n, isNon_i, isNon_s, isNon_l, rEq_i, rEq_b, rEq_i2, rEq_b2, rJoin_m, rSplit_s, tyOk_l, tyOk_s, patD_nm, patD_tp, patDs_nil, patDs_cons, Option.bind_some, notX, notX',
  List.map_cons, List.map_nil, List.length_cons, List.length_nil, List.cons_append, List.nil_append, List.append_nil, List.replicate, List.getElem?_cons_zero, List.getElem?_cons_succ, List.set_cons_zero, List.set_cons_succ, updO_same, updO_updO,
  Nat.reduceSub, Nat.reduceAdd, Nat.reduceLeDiff, Nat.zero_add, Int.cast_ofNat_Int, Int.natCast_zero, Int.natCast_one, Int.reduceLT, Int.reduceLE, Int.reduceEq, Int.reduceAdd, Int.reduceSub, Int.reduceNeg, decide_true, decide_false, if_true, if_false, Bool.false_eq_true, eq_self, reduceIte, Bool.true_eq_false, decide_eq_true_eq, Bool.not_true, Bool.not_false, Bool.not_eq_true', decide_eq_false_iff_not, exists_eq_left', exists_eq_left, D.bl.injEq, true_and, and_true])
/-! ### how many kinds: the list of counts, grown by one -/
def nxt (xs : List Int) : Int := 2 * ((List.range (xs.length - 1)).map fun i => xs.getD (i + 1) 0 * xs.getD (xs.length - (i + 1)) 0).sum
def cl (m : Int) : Nat → List Int
  | 0 => [0, m + 1]
  | k + 1 => cl m k ++ [nxt (cl m k)]
/-- marks are one to four -/
def Small (m : Int) : Prop := m = 1 ∨ m = 2 ∨ m = 3 ∨ m = 4
/-- a text of small letters, by their places -/
def txt (ps : List Int) : Str := ⟨(ps.map fun n => 97 + n.toNat).toArray⟩
def Lets (ps : List Int) : Prop := ∀ n ∈ ps, 0 ≤ n ∧ n < 26
def IsMk (t : Str) : Prop := ∃ ps, t = txt ps ∧ 1 ≤ ps.length ∧ ps.length ≤ 6 ∧ Lets ps
theorem IsMk.ok {t : Str} (h : IsMk t) : PyData.strOk t = true := by
  obtain ⟨ps, rfl, _, _, h⟩ := h
  unfold PyData.strOk txt
  simp only [List.all_toArray, List.all_eq_true, List.mem_map, decide_eq_true_eq]
  rintro c ⟨n, hn, rfl⟩
  have := h n hn
  omega
theorem isPys_strs {us : List Str} (h : ∀ t ∈ us, PyData.strOk t = true) : isPys (us.map D.str) = true := by
  rw [isPys_all, List.all_eq_true]
  intro d hd
  obtain ⟨t, ht, rfl⟩ := List.mem_map.mp hd
  simp only [isPy]; exact h t ht
/-! ### the catalogue: all kinds of so many leaves, in order -/
def prs (xs ys : List Kd) : List Kd := (xs.flatMap fun a => ys.map (Kd.to a)) ++ (xs.flatMap fun a => ys.map (Kd.both a))
def nxK (ls : List (List Kd)) : List Kd := (List.range (ls.length - 1)).flatMap fun i => prs (ls.getD (i + 1) []) (ls.getD (ls.length - (i + 1)) [])
def al (ms : List Str) : Nat → List (List Kd)
  | 0 => [[], ms.map .mk ++ [.one]]
  | k + 1 => al ms k ++ [nxK (al ms k)]
def A (ms : List Str) (n : Nat) : List Kd := (al ms 9).getD n []
def pre {α : Type} (f : Nat → List α) (i : Nat) : Nat := ((List.range i).map fun t => (f t).length).sum
abbrev blkF (ms : List Str) (n : Nat) : Nat → List Kd := fun i => prs (A ms (i + 1)) (A ms (n - (i + 1)))
/-! the number of a kind -/
def Kd.over (ms : List Str) : Kd → Prop
  | .mk m => m ∈ ms
  | .one => True
  | .to a b => a.over ms ∧ b.over ms
  | .both a b => a.over ms ∧ b.over ms
def place (ms : List Str) : Kd → Nat
  | .mk m => ms.idxOf m
  | .one => ms.length
  | .to a b => pre (blkF ms (a.leaves + b.leaves)) (a.leaves - 1) + place ms a * (A ms b.leaves).length + place ms b
  | .both a b => pre (blkF ms (a.leaves + b.leaves)) (a.leaves - 1) + (A ms a.leaves).length * (A ms b.leaves).length + place ms a * (A ms b.leaves).length + place ms b
/-! ### what the catalogue's defs are asked and answer -/
theorem Small.mem {m : Int} (h : Small m) : m ∈ [(1 : Int), 2, 3, 4] := by rcases h with rfl | rfl | rfl | rfl <;> simp
/-! ### the words of kinds -/
theorem any_strs (z : Str) : ∀ ts : List Str, (ts.map D.str).any (fun d => deq d (.str z)) = decide (z ∈ ts)
  | [] => by simp
  | t :: ts => by
    rw [List.map_cons, List.any_cons, any_strs z ts, deq_s]
    by_cases h : t = z
    · subst h; simp
    · have h' : ¬ z = t := fun q => h q.symm
      simp [h, h']
theorem rIn_strs {z : Str} {ts : List Str} {O : Ow} {Q : VD} {neg : Bool} (hz : PyData.strOk z = true) (h : ∀ t ∈ ts, PyData.strOk t = true) : rInD neg (.str z) (.lst (ts.map .str)) O Q = Q (.bl (neg ^^ decide (z ∈ ts))) O := by
  have e := any_strs z ts
  simp only [deq] at e
  simp only [rInD, deref, isPy, hz, isPys_strs h, dpS, true_and, e, Nat.zero_le]
def Kd.marks : Kd → List Str
  | .mk m => [m]
  | .one => []
  | .to a b => a.marks ++ b.marks
  | .both a b => a.marks ++ b.marks
end Kf
/-! Kdc: tables, rows of names. -/
namespace Kf
open PySem PySem.Spec L2
open PyProof.Rows hiding St
theorem valD_pos {κ : Type} [DecidableEq κ] {p : κ × D} {r : List (κ × D)} {k : κ} (e : p.1 = k) : valD (p :: r) k = some p.2 := by simp [valD, List.find?_cons, e]
theorem valD_neg {κ : Type} [DecidableEq κ] {p : κ × D} {r : List (κ × D)} {k : κ} (e : ¬ p.1 = k) : valD (p :: r) k = valD r k := by simp [valD, List.find?_cons, e]
theorem valD_any {κ : Type} [DecidableEq κ] (k : κ) : ∀ kvs : List (κ × D), (kvs.any fun kv => decide (kv.1 = k)) = (valD kvs k).isSome
  | [] => rfl
  | p :: r => by
    rw [List.any_cons]
    by_cases e : p.1 = k
    · simp only [valD_pos e, decide_eq_true e, Bool.true_or, Option.isSome_some]
    · rw [valD_neg e, decide_eq_false e, Bool.false_or]; exact valD_any k r
theorem valD_map {κ : Type} [DecidableEq κ] (k j : κ) (y : D) : ∀ kvs : List (κ × D), valD (kvs.map fun kv => if kv.1 = k then (kv.1, y) else kv) j = (valD kvs j).map fun x => if j = k then y else x
  | [] => rfl
  | p :: r => by
    have ih := valD_map k j y r
    rw [List.map_cons]
    by_cases h : p.1 = k
    · rw [if_pos h]
      by_cases e : p.1 = j
      · rw [valD_pos (p := (p.1, y)) e, valD_pos e, Option.map_some, if_pos (e.symm.trans h)]
      · rw [valD_neg (p := (p.1, y)) e, valD_neg e, ih]
    · rw [if_neg h]
      by_cases e : p.1 = j
      · rw [valD_pos (p := p) e, valD_pos e, Option.map_some, if_neg (fun z => h (e.trans z))]
      · rw [valD_neg (p := p) e, valD_neg e, ih]
theorem valD_snoc {κ : Type} [DecidableEq κ] (k j : κ) (y : D) : ∀ kvs : List (κ × D), valD kvs k = none → valD (kvs ++ [(k, y)]) j = if j = k then some y else valD kvs j
  | [], _ => by
    by_cases e : k = j
    · rw [if_pos e.symm]; exact valD_pos (p := (k, y)) e
    · rw [if_neg (fun z => e z.symm)]; exact valD_neg (p := (k, y)) e
  | p :: r, hn => by
    rw [List.cons_append]
    have hk : ¬ p.1 = k := fun z => by rw [valD_pos z] at hn; cases hn
    rw [valD_neg hk] at hn
    have ih := valD_snoc k j y r hn
    by_cases e : p.1 = j
    · rw [valD_pos e, valD_pos e, if_neg (fun z => hk (e.trans z))]
    · rw [valD_neg e, valD_neg e, ih]
theorem valD_put {κ : Type} [DecidableEq κ] (kvs : List (κ × D)) (k j : κ) (d : D) : valD (putD kvs k d) j = if j = k then some d else valD kvs j := by
  unfold putD
  rw [valD_any]
  cases h : valD kvs k with
  | none => rw [if_neg (by simp)]; exact valD_snoc k j d kvs h
  | some x =>
    rw [if_pos (by rfl), valD_map]
    by_cases e : j = k
    · subst e; rw [if_pos rfl, h]; simp
    · rw [if_neg e]; simp [e]
theorem keys_put {κ : Type} [DecidableEq κ] (kvs : List (κ × D)) (k : κ) (d : D) : (putD kvs k d).map (·.1) = if (valD kvs k).isSome then kvs.map (·.1) else kvs.map (·.1) ++ [k] := by
  unfold putD
  rw [valD_any]
  split
  · rw [List.map_map]
    refine List.map_congr_left fun p _ => ?_
    show (if p.1 = k then (p.1, d) else p).1 = p.1
    split <;> rfl
  · rw [List.map_append]; rfl
theorem valD_mem {κ : Type} [DecidableEq κ] {kvs : List (κ × D)} {k : κ} : k ∈ kvs.map (·.1) ↔ (valD kvs k).isSome = true := by
  rw [← valD_any, List.any_eq_true, List.mem_map]
  constructor
  · rintro ⟨p, h1, h2⟩; exact ⟨p, h1, decide_eq_true h2⟩
  · rintro ⟨p, h1, h2⟩; exact ⟨p, h1, of_decide_eq_true h2⟩
theorem nodup_le {α : Type} [DecidableEq α] : ∀ {ts us : List α}, ts.Nodup → (∀ t ∈ ts, t ∈ us) → ts.length ≤ us.length
  | [], _, _, _ => Nat.zero_le _
  | t :: ts, us, hn, h => by
    have h1 := List.nodup_cons.mp hn
    have ht := h t List.mem_cons_self
    have ih := nodup_le (us := us.erase t) h1.2 fun u hu => by
      have hne : u ≠ t := fun q => h1.1 (q ▸ hu)
      exact (List.mem_erase_of_ne hne).mpr (h u (List.mem_cons_of_mem _ hu))
    rw [List.length_erase_of_mem ht] at ih
    have := List.length_pos_of_mem ht
    rw [List.length_cons]; omega
/-! ### rows -/
abbrev kv (q : Str × Kd) : D := .tup [.str q.1, dK q.2]
def ANames : List Str := ["pa", "fa", "pb", "fb", "x0", "x1", "x2", "y", "z", "x7"]
def XNames : List Str := ["x0", "x1", "x2", "y", "z", "x7"]
abbrev AB : List Str := ["a", "b"]
theorem xnames : ∀ x ∈ XNames, x ∈ ANames ∧ x ≠ "pa" ∧ x ≠ "pb" ∧ x ≠ "fa" ∧ x ≠ "fb" := by decide +kernel
structure RowOk (kn : List (Str × Kd)) : Prop where
  nm : ∀ q ∈ kn, q.1 ∈ ANames ∧ q.2.over AB ∧ q.2.leaves ≤ 3
  pa : envOf kn "pa" = some (.mk "a")
  pb : envOf kn "pb" = some (.mk "b")
  fa : envOf kn "fa" = some (.to (.mk "a") (.mk "a"))
  fb : envOf kn "fb" = some (.to (.mk "b") (.mk "b"))
theorem RowOk.snoc {kn : List (Str × Kd)} (h : RowOk kn) {x : Str} {k : Kd} (hx : x ∈ XNames) (ho : k.over AB) (hl : k.leaves ≤ 3) : RowOk (kn ++ [(x, k)]) := by
  obtain ⟨h0, h1, h2, h3, h4⟩ := xnames x hx
  refine ⟨fun q hq => ?_, ?_, ?_, ?_, ?_⟩
  · rcases List.mem_append.mp hq with hq | hq
    · exact h.nm q hq
    · rw [List.mem_singleton.mp hq]; exact ⟨h0, ho, hl⟩
  · rw [envOf_snoc, if_neg h1]; exact h.pa
  · rw [envOf_snoc, if_neg h2]; exact h.pb
  · rw [envOf_snoc, if_neg h3]; exact h.fa
  · rw [envOf_snoc, if_neg h4]; exact h.fb
/-- what the names' table holds behind a row's first ones -/
structure DInv (pre : List (Str × Kd)) (kvs : List (Key × D)) (ts : List Str) : Prop where
  ks : kvs.map (·.1) = ts.map Sum.inr
  nd : ts.Nodup
  an : ∀ t ∈ ts, t ∈ ANames
  vl : ∀ x : Str, valD kvs (.inr x) = (envOf pre x).map dK
theorem DInv.nil : DInv [] [] [] := ⟨rfl, List.nodup_nil, fun _ h => (nomatch h), fun _ => rfl⟩
theorem DInv.len {pre : List (Str × Kd)} {kvs : List (Key × D)} {ts : List Str} (h : DInv pre kvs ts) : ts.length ≤ 10 ∧ kvs.length ≤ 10 := by
  have h1 : ts.length ≤ 10 := nodup_le (us := ANames) h.nd h.an
  have h2 : kvs.length = ts.length := by have := congrArg List.length h.ks; simpa using this
  omega
theorem DInv.put {pre : List (Str × Kd)} {kvs : List (Key × D)} {ts : List Str} (h : DInv pre kvs ts) {x : Str} {k : Kd} (hx : x ∈ ANames) : ∃ ts', DInv (pre ++ [(x, k)]) (putD kvs (.inr x) (dK k)) ts' := by
  have hv : ∀ y : Str, valD (putD kvs (.inr x) (dK k)) (.inr y) = (envOf (pre ++ [(x, k)]) y).map dK := fun y => by
    rw [valD_put, envOf_snoc]
    by_cases e : x = y
    · subst e; simp
    · rw [if_neg (fun q => e (Sum.inr.inj q).symm), if_neg e, h.vl]
  have hk := keys_put kvs (.inr x) (dK k)
  by_cases c : (valD kvs (.inr x)).isSome = true
  · rw [if_pos c] at hk
    exact ⟨ts, hk.trans h.ks, h.nd, h.an, hv⟩
  · rw [if_neg c] at hk
    refine ⟨ts ++ [x], by rw [hk, h.ks, List.map_append]; rfl, ?_, ?_, hv⟩
    · refine List.nodup_append.mpr ⟨h.nd, by simp, fun a ha b hb e => c ?_⟩
      rw [List.mem_singleton.mp hb] at e
      subst e
      exact valD_mem.mp (by rw [h.ks]; exact List.mem_map.mpr ⟨a, ha, rfl⟩)
    · intro t ht
      rcases List.mem_append.mp ht with ht | ht
      · exact h.an t ht
      · rw [List.mem_singleton.mp ht]; exact hx
end Kf
/-! Kdw: as Kdb, to 512: programs with names told by how many takes stand between; steps. -/
namespace Kf
open PySem PySem.Spec L2
open PyProof.Rows hiding St
inductive Db where
  | at (i : Nat) | nm (x : Str) | thing | take (k : Kd) (b : Db) | give (f a : Db) | pair (a b : Db) | first (p : Db) | second (p : Db)
  deriving DecidableEq, Inhabited
/-- x and a number -/
def xn (k : Nat) : Str := Str.ofString "x" ++ Str.ofString (toString (k : Int))
/-- the number of a name -/
def numX (x : Str) : Nat := (x.cps.toList.drop 1).foldl (fun a c => 10 * a + (c - 48)) 0
theorem numX_xn : ∀ k, k < 512 → numX (xn k) = k := by
  have h : ∀ k ∈ List.range 512, numX (xn k) = k := by decide +kernel
  exact fun k hk => h k (List.mem_range.mpr hk)
theorem xn_inj64 (i : Nat) (hi : i < 512) (j : Nat) (hj : j < 512) (e : xn i = xn j) : i = j := by
  rw [← numX_xn i hi, ← numX_xn j hj, e]
/-- a name that is none of these -/
def Fr (x : Str) : Prop := ∀ k, k < 512 → xn k ≠ x
/-- the nearest one called x, the nearest first -/
def ri : List Str → Str → Option Nat
  | [], _ => none
  | y :: r, x => if y = x then some 0 else (ri r x).map (· + 1)
def bare : Pg → List Str → Db
  | .nm x, c => match ri c x with
    | some i => .at i
    | none => .nm x
  | .thing, _ => .thing
  | .take x k b, c => .take k (bare b (x :: c))
  | .give f a, c => .give (bare f c) (bare a c)
  | .pair a b, c => .pair (bare a c) (bare b c)
  | .first p, c => .first (bare p c)
  | .second p, c => .second (bare p c)
def tidy : Pg → List Str → Pg
  | .nm x, c => match ri c x with
    | some i => .nm (xn (c.length - 1 - i))
    | none => .nm x
  | .thing, _ => .thing
  | .take x k b, c => .take (xn c.length) k (tidy b (x :: c))
  | .give f a, c => .give (tidy f c) (tidy a c)
  | .pair a b, c => .pair (tidy a c) (tidy b c)
  | .first p, c => .first (tidy p c)
  | .second p, c => .second (tidy p c)
def dress : Db → Nat → Pg
  | .at i, m => .nm (xn (m - 1 - i))
  | .nm x, _ => .nm x
  | .thing, _ => .thing
  | .take k b, m => .take (xn m) k (dress b (m + 1))
  | .give f a, m => .give (dress f m) (dress a m)
  | .pair a b, m => .pair (dress a m) (dress b m)
  | .first p, m => .first (dress p m)
  | .second p, m => .second (dress p m)
theorem tidy_eq : ∀ (p : Pg) (c : List Str), tidy p c = dress (bare p c) c.length
  | .nm x, c => by
    simp only [tidy, bare]
    cases ri c x <;> rfl
  | .thing, _ => rfl
  | .take x k b, c => by simp only [tidy, bare, dress]; rw [tidy_eq b (x :: c)]; rfl
  | .give f a, c => by simp only [tidy, bare, dress, tidy_eq f c, tidy_eq a c]
  | .pair f a, c => by simp only [tidy, bare, dress, tidy_eq f c, tidy_eq a c]
  | .first f, c => by simp only [tidy, bare, dress, tidy_eq f c]
  | .second f, c => by simp only [tidy, bare, dress, tidy_eq f c]
def moved : Db → Nat → Nat → Db
  | .at i, f, n => .at (i + if f ≤ i then n else 0)
  | .nm x, _, _ => .nm x
  | .thing, _, _ => .thing
  | .take k b, f, n => .take k (moved b (f + 1) n)
  | .give g a, f, n => .give (moved g f n) (moved a f n)
  | .pair a b, f, n => .pair (moved a f n) (moved b f n)
  | .first p, f, n => .first (moved p f n)
  | .second p, f, n => .second (moved p f n)
theorem moved_zero : ∀ (b : Db) (f : Nat), moved b f 0 = b
  | .at i, f => by simp [moved]
  | .nm x, _ => rfl
  | .thing, _ => rfl
  | .take k b, f => by simp only [moved, moved_zero b]
  | .give g a, f => by simp only [moved, moved_zero g, moved_zero a]
  | .pair g a, f => by simp only [moved, moved_zero g, moved_zero a]
  | .first p, f => by simp only [moved, moved_zero p]
  | .second p, f => by simp only [moved, moved_zero p]
def put : Db → Nat → Db → Db
  | .at i, t, g => if i = t then moved g 0 t else .at (i - if t < i then 1 else 0)
  | .nm x, _, _ => .nm x
  | .thing, _, _ => .thing
  | .take k b, t, g => .take k (put b (t + 1) g)
  | .give f a, t, g => .give (put f t g) (put a t g)
  | .pair a b, t, g => .pair (put a t g) (put b t g)
  | .first p, t, g => .first (put p t g)
  | .second p, t, g => .second (put p t g)
def wgiven : Pg → Str → Pg → Pg
  | .nm x, y, g => if x = y then g else .nm x
  | .thing, _, _ => .thing
  | .take x k b, y, g => .take x k (wgiven b y g)
  | .give f a, y, g => .give (wgiven f y g) (wgiven a y g)
  | .pair a b, y, g => .pair (wgiven a y g) (wgiven b y g)
  | .first p, y, g => .first (wgiven p y g)
  | .second p, y, g => .second (wgiven p y g)
/-- how many takes stand within one another -/
def Db.bd : Db → Nat
  | .at _ => 0
  | .nm _ => 0
  | .thing => 0
  | .take _ b => b.bd + 1
  | .give f a => max f.bd a.bd
  | .pair a b => max a.bd b.bd
  | .first p => p.bd
  | .second p => p.bd
def Wf : Db → Nat → Prop
  | .at i, m => i < m
  | .nm x, _ => Fr x
  | .thing, _ => True
  | .take _ b, m => Wf b (m + 1)
  | .give f a, m => Wf f m ∧ Wf a m
  | .pair a b, m => Wf a m ∧ Wf b m
  | .first p, m => Wf p m
  | .second p, m => Wf p m
/-! ### where names stand -/
def xr : Nat → List Str
  | 0 => []
  | m + 1 => xn m :: xr m
def mid (m : Nat) : Nat → List Str
  | 0 => xr m
  | j + 1 => xn (m + j + 1) :: mid m j
def own (m j : Nat) : Nat → List Str
  | 0 => mid m j
  | e + 1 => xn (m + e) :: own m j e
theorem ri_xr {k : Nat} : ∀ {m : Nat}, m ≤ 512 → k < m → ri (xr m) (xn k) = some (m - 1 - k)
  | m + 1, hm, hk => by
    unfold xr ri
    by_cases e : m = k
    · subst e; rw [if_pos rfl]; congr 1; omega
    · rw [if_neg (fun q => e (xn_inj64 m (by omega) k (by omega) q)), ri_xr (by omega) (by omega)]
      simp only [Option.map_some]
      congr 1; omega
theorem ri_mid_lo {m k : Nat} (hk : k < m) : ∀ {j : Nat}, m + j < 512 → ri (mid m j) (xn k) = some (j + (m - 1 - k))
  | 0, hm => by
    unfold mid
    rw [ri_xr (by omega) hk]
    congr 1; omega
  | j + 1, hm => by
    unfold mid ri
    rw [if_neg (fun q => by have := xn_inj64 _ (by omega) _ (by omega) q; omega), ri_mid_lo hk (by omega)]
    simp only [Option.map_some]
    congr 1; omega
theorem ri_mid_hi {m k : Nat} (hk : m < k) : ∀ {j : Nat}, m + j < 512 → k ≤ m + j → ri (mid m j) (xn k) = some (m + j - k)
  | 0, hm, h => by omega
  | j + 1, hm, h => by
    unfold mid ri
    by_cases e : m + j + 1 = k
    · subst e; rw [if_pos rfl]; congr 1; omega
    · rw [if_neg (fun q => e (xn_inj64 _ (by omega) _ (by omega) q)), ri_mid_hi hk (by omega) (by omega)]
      simp only [Option.map_some]
      congr 1; omega
theorem ri_own_lo {m j k : Nat} (hk : k < m) (hj : m + j < 512) : ∀ {e : Nat}, m + e < 512 → ri (own m j e) (xn k) = some (e + j + (m - 1 - k))
  | 0, hm => by
    unfold own
    rw [ri_mid_lo hk hj]
    congr 1; omega
  | e + 1, hm => by
    unfold own ri
    rw [if_neg (fun q => by have := xn_inj64 _ (by omega) _ (by omega) q; omega), ri_own_lo hk hj (by omega)]
    simp only [Option.map_some]
    congr 1; omega
theorem ri_own_hi {m j k : Nat} (hk : m ≤ k) : ∀ {e : Nat}, m + e < 512 → k < m + e → ri (own m j e) (xn k) = some (m + e - 1 - k)
  | 0, hm, h => by omega
  | e + 1, hm, h => by
    unfold own ri
    by_cases z : m + e = k
    · subst z; rw [if_pos rfl]; congr 1; omega
    · rw [if_neg (fun q => z (xn_inj64 _ (by omega) _ (by omega) q)), ri_own_hi hk (by omega) (by omega)]
      simp only [Option.map_some]
      congr 1; omega
theorem ri_none {x : Str} : ∀ {c : List Str}, (∀ y ∈ c, y ≠ x) → ri c x = none
  | [], _ => rfl
  | y :: c, h => by
    unfold ri
    rw [if_neg (h y List.mem_cons_self), ri_none fun z hz => h z (List.mem_cons_of_mem _ hz)]
    rfl
theorem mem_xr {y : Str} : ∀ {m : Nat}, y ∈ xr m → ∃ k, k < m ∧ y = xn k
  | m + 1, h => by
    unfold xr at h
    rcases List.mem_cons.mp h with rfl | h
    · exact ⟨m, by omega, rfl⟩
    · obtain ⟨k, h1, h2⟩ := mem_xr h; exact ⟨k, by omega, h2⟩
theorem mem_mid {m : Nat} {y : Str} : ∀ {j : Nat}, y ∈ mid m j → ∃ k, k < m + j + 1 ∧ y = xn k
  | 0, h => by obtain ⟨k, h1, h2⟩ := mem_xr h; exact ⟨k, by omega, h2⟩
  | j + 1, h => by
    unfold mid at h
    rcases List.mem_cons.mp h with rfl | h
    · exact ⟨_, by omega, rfl⟩
    · obtain ⟨k, h1, h2⟩ := mem_mid h; exact ⟨k, by omega, h2⟩
theorem mem_own {m j : Nat} {y : Str} : ∀ {e : Nat}, y ∈ own m j e → ∃ k, k < m + j + e + 1 ∧ y = xn k
  | 0, h => by obtain ⟨k, h1, h2⟩ := mem_mid h; exact ⟨k, by omega, h2⟩
  | e + 1, h => by
    unfold own at h
    rcases List.mem_cons.mp h with rfl | h
    · exact ⟨_, by omega, rfl⟩
    · obtain ⟨k, h1, h2⟩ := mem_own h; exact ⟨k, by omega, h2⟩
/-! ### dressed and bare again -/
theorem bare_own {m j : Nat} : ∀ (a : Db) (e : Nat), Wf a (m + e) → m + j + e + a.bd < 500 → bare (dress a (m + e)) (own m j e) = moved a e j
  | .at i, e, h, hb => by
    simp only [Wf, Db.bd] at h hb
    simp only [dress, bare, moved]
    by_cases c : e ≤ i
    · rw [ri_own_lo (by omega) (by omega) (by omega), if_pos c]
      simp only
      congr 1; omega
    · rw [ri_own_hi (by omega) (by omega) (by omega), if_neg c]
      simp only
      congr 1; omega
  | .nm x, e, h, hb => by
    simp only [dress, bare, moved]
    rw [ri_none fun y hy => by obtain ⟨k, h1, rfl⟩ := mem_own hy; exact h k (by omega)]
  | .thing, _, _, _ => rfl
  | .take k b, e, h, hb => by
    simp only [dress, bare, moved]
    simp only [Db.bd] at hb
    have := bare_own (m := m) (j := j) b (e + 1) h (by omega)
    exact congrArg (Db.take k) this
  | .give f a, e, h, hb => by
    simp only [Db.bd] at hb
    simp only [dress, bare, moved, bare_own (m := m) (j := j) f e h.1 (by omega), bare_own (m := m) (j := j) a e h.2 (by omega)]
  | .pair f a, e, h, hb => by
    simp only [Db.bd] at hb
    simp only [dress, bare, moved, bare_own (m := m) (j := j) f e h.1 (by omega), bare_own (m := m) (j := j) a e h.2 (by omega)]
  | .first p, e, h, hb => by
    simp only [Db.bd] at hb
    simp only [dress, bare, moved, bare_own (m := m) (j := j) p e h (by omega)]
  | .second p, e, h, hb => by
    simp only [Db.bd] at hb
    simp only [dress, bare, moved, bare_own (m := m) (j := j) p e h (by omega)]
theorem bare_dress {m : Nat} {b : Db} (h : Wf b m) (hb : m + b.bd < 500) : bare (dress b m) (xr m) = b := by
  have := bare_own (m := m) (j := 0) b 0 h (by omega)
  rw [moved_zero] at this
  exact this
/-- a given thing put into a body -/
theorem bare_put {m : Nat} {a : Db} (ha : Wf a m) : ∀ (b : Db) (j : Nat), Wf b (m + 1 + j) → m + j + a.bd + b.bd < 498 → bare (wgiven (dress b (m + 1 + j)) (xn m) (dress a m)) (mid m j) = put b j a
  | .at i, j, h, hb => by
    simp only [Wf, Db.bd] at h hb
    simp only [dress, wgiven, put]
    by_cases c : i = j
    · have e : m + 1 + j - 1 - i = m := by omega
      rw [e, if_pos rfl, if_pos c]
      exact bare_own (m := m) (j := j) a 0 ha (by omega)
    · rw [if_neg (fun q => by have := xn_inj64 _ (by omega) _ (by omega) q; omega), if_neg c]
      simp only [bare]
      by_cases d : j < i
      · rw [ri_mid_lo (by omega) (by omega), if_pos d]
        simp only
        congr 1; omega
      · rw [ri_mid_hi (by omega) (by omega) (by omega), if_neg d]
        simp only
        congr 1; omega
  | .nm x, j, h, hb => by
    simp only [Db.bd] at hb
    simp only [dress, wgiven, put]
    rw [if_neg (fun q => h m (by omega) q.symm)]
    simp only [bare]
    rw [ri_none fun y hy => by obtain ⟨k, h1, rfl⟩ := mem_mid hy; exact h k (by omega)]
  | .thing, _, _, _ => rfl
  | .take k b, j, h, hb => by
    simp only [Db.bd] at hb
    simp only [dress, wgiven, put, bare]
    have := bare_put ha b (j + 1) h (by omega)
    have e : m + 1 + j = m + j + 1 := by omega
    refine congrArg (Db.take k) ?_
    rw [← this]
    show bare _ (xn (m + 1 + j) :: mid m j) = bare _ (xn (m + j + 1) :: mid m j)
    rw [e, show m + 1 + (j + 1) = m + j + 1 + 1 by omega]
  | .give f g, j, h, hb => by
    simp only [Db.bd] at hb
    simp only [dress, wgiven, put, bare, bare_put ha f j h.1 (by omega), bare_put ha g j h.2 (by omega)]
  | .pair f g, j, h, hb => by
    simp only [Db.bd] at hb
    simp only [dress, wgiven, put, bare, bare_put ha f j h.1 (by omega), bare_put ha g j h.2 (by omega)]
  | .first p, j, h, hb => by
    simp only [Db.bd] at hb
    simp only [dress, wgiven, put, bare, bare_put ha p j h (by omega)]
  | .second p, j, h, hb => by
    simp only [Db.bd] at hb
    simp only [dress, wgiven, put, bare, bare_put ha p j h (by omega)]
/-! ### steps -/
/-- the step at a place, names told by numbers -/
def stepB : Db → List Int → Db
  | .give f a, [] => match f with
    | .take _ b => put b 0 a
    | _ => .give f a
  | .first p, [] => match p with
    | .pair a _ => a
    | _ => .first p
  | .second p, [] => match p with
    | .pair _ b => b
    | _ => .second p
  | .take k b, _ :: pl => .take k (stepB b pl)
  | .give f a, i :: pl => if i = 0 then .give (stepB f pl) a else .give f (stepB a pl)
  | .pair a b, i :: pl => if i = 0 then .pair (stepB a pl) b else .pair a (stepB b pl)
  | .first p, _ :: pl => .first (stepB p pl)
  | .second p, _ :: pl => .second (stepB p pl)
  | b, _ => b
/-- what comes of a part at which a step is done -/
def wc : Pg → Pg
  | .give (.take x _ b) a => wgiven b x a
  | .first (.pair a _) => a
  | .second (.pair _ b) => b
  | p => p
def partAt : Pg → List Int → Option Pg
  | p, [] => some p
  | .take _ _ b, i :: pl => if i = 0 then partAt b pl else none
  | .give f a, i :: pl => if i = 0 then partAt f pl else if i = 1 then partAt a pl else none
  | .pair f a, i :: pl => if i = 0 then partAt f pl else if i = 1 then partAt a pl else none
  | .first p, i :: pl => if i = 0 then partAt p pl else none
  | .second p, i :: pl => if i = 0 then partAt p pl else none
  | _, _ :: _ => none
def withPart : Pg → List Int → Pg → Pg
  | _, [], q => q
  | .take x k b, _ :: pl, q => .take x k (withPart b pl q)
  | .give f a, i :: pl, q => if i = 0 then .give (withPart f pl q) a else .give f (withPart a pl q)
  | .pair f a, i :: pl, q => if i = 0 then .pair (withPart f pl q) a else .pair f (withPart a pl q)
  | .first p, _ :: pl, q => .first (withPart p pl q)
  | .second p, _ :: pl, q => .second (withPart p pl q)
  | p, _ :: _, _ => p
/-- a place at which a step can be done -/
def Vd (p : Pg) (pl : List Int) : Prop := ∃ q, partAt p pl = some q ∧ q.can = true
def stepP (p : Pg) (pl : List Int) : Pg := match partAt p pl with
  | some q => withPart p pl (wc q)
  | none => p
theorem can_dress {b : Db} {m : Nat} (h : (dress b m).can = true) : (∃ k c a, b = .give (.take k c) a) ∨ (∃ a c, b = .first (.pair a c)) ∨ ∃ a c, b = .second (.pair a c) := by
  cases b with
  | give f a => cases f <;> simp [dress, Pg.can, Pg.isTake] at h ⊢
  | first p => cases p <;> simp [dress, Pg.can, Pg.isPair] at h ⊢
  | second p => cases p <;> simp [dress, Pg.can, Pg.isPair] at h ⊢
  | _ => simp [dress, Pg.can] at h
theorem bare_step : ∀ (b : Db) (pl : List Int) (m : Nat), Wf b m → m + 2 * b.bd < 498 → Vd (dress b m) pl → bare (stepP (dress b m) pl) (xr m) = stepB b pl
  | b, [], m, h, hb, ⟨q, hq, hc⟩ => by
    simp only [partAt, Option.some.injEq] at hq
    subst hq
    simp only [stepP, partAt, withPart]
    rcases can_dress hc with ⟨k, c, a, rfl⟩ | ⟨a, c, rfl⟩ | ⟨a, c, rfl⟩
    · simp only [dress, wc, stepB]
      simp only [Db.bd] at hb
      exact bare_put h.2 c 0 h.1 (by omega)
    · simp only [dress, wc, stepB]
      simp only [Db.bd] at hb
      exact bare_dress h.1 (by omega)
    · simp only [dress, wc, stepB]
      simp only [Db.bd] at hb
      exact bare_dress h.2 (by omega)
  | .take k b, i :: pl, m, h, hb, ⟨q, hq, hc⟩ => by
    simp only [dress, partAt] at hq
    split at hq <;> first | cases hq; done | skip
    rename_i hi
    simp only [Db.bd] at hb
    have ih := bare_step b pl (m + 1) h (by omega) ⟨q, hq, hc⟩
    simp only [stepP, hq] at ih
    simp only [stepP, dress, partAt, if_pos hi, hq, withPart, bare, stepB]
    exact congrArg (Db.take k) ih
  | .give f a, i :: pl, m, h, hb, ⟨q, hq, hc⟩ => by
    simp only [dress, partAt] at hq
    simp only [Db.bd] at hb
    by_cases hi : i = 0
    · rw [if_pos hi] at hq
      have ih := bare_step f pl m h.1 (by omega) ⟨q, hq, hc⟩
      simp only [stepP, hq] at ih
      simp only [stepP, dress, partAt, if_pos hi, hq, withPart, bare, stepB, ih, bare_dress h.2 (show m + a.bd < 500 by omega)]
    · rw [if_neg hi] at hq
      split at hq <;> first | cases hq; done | skip
      rename_i h1
      have ih := bare_step a pl m h.2 (by omega) ⟨q, hq, hc⟩
      simp only [stepP, hq] at ih
      simp only [stepP, dress, partAt, if_neg hi, if_pos h1, hq, withPart, bare, stepB, ih, bare_dress h.1 (show m + f.bd < 500 by omega)]
  | .pair f a, i :: pl, m, h, hb, ⟨q, hq, hc⟩ => by
    simp only [dress, partAt] at hq
    simp only [Db.bd] at hb
    by_cases hi : i = 0
    · rw [if_pos hi] at hq
      have ih := bare_step f pl m h.1 (by omega) ⟨q, hq, hc⟩
      simp only [stepP, hq] at ih
      simp only [stepP, dress, partAt, if_pos hi, hq, withPart, bare, stepB, ih, bare_dress h.2 (show m + a.bd < 500 by omega)]
    · rw [if_neg hi] at hq
      split at hq <;> first | cases hq; done | skip
      rename_i h1
      have ih := bare_step a pl m h.2 (by omega) ⟨q, hq, hc⟩
      simp only [stepP, hq] at ih
      simp only [stepP, dress, partAt, if_neg hi, if_pos h1, hq, withPart, bare, stepB, ih, bare_dress h.1 (show m + f.bd < 500 by omega)]
  | .first p, i :: pl, m, h, hb, ⟨q, hq, hc⟩ => by
    simp only [dress, partAt] at hq
    split at hq <;> first | cases hq; done | skip
    rename_i hi
    simp only [Db.bd] at hb
    have ih := bare_step p pl m h (by omega) ⟨q, hq, hc⟩
    simp only [stepP, hq] at ih
    simp only [stepP, dress, partAt, if_pos hi, hq, withPart, bare, stepB, ih]
  | .second p, i :: pl, m, h, hb, ⟨q, hq, hc⟩ => by
    simp only [dress, partAt] at hq
    split at hq <;> first | cases hq; done | skip
    rename_i hi
    simp only [Db.bd] at hb
    have ih := bare_step p pl m h (by omega) ⟨q, hq, hc⟩
    simp only [stepP, hq] at ih
    simp only [stepP, dress, partAt, if_pos hi, hq, withPart, bare, stepB, ih]
  | .at i, j :: pl, m, h, hb, ⟨q, hq, hc⟩ => by simp [dress, partAt] at hq
  | .nm i, j :: pl, m, h, hb, ⟨q, hq, hc⟩ => by simp [dress, partAt] at hq
  | .thing, j :: pl, m, h, hb, ⟨q, hq, hc⟩ => by simp [dress, partAt] at hq
/-! ### places -/
theorem plc_vd : ∀ (p : Pg) (p0 q : List Int), q ∈ plc p p0 → ∃ r, q = p0 ++ r ∧ Vd p r
  | .nm _, p0, q, h => by simp [plc] at h
  | .thing, p0, q, h => by simp [plc] at h
  | .take x k b, p0, q, h => by
    obtain ⟨r, h1, s, h2, h3⟩ := plc_vd b (p0 ++ [0]) q (by simpa only [plc] using h)
    exact ⟨0 :: r, by rw [h1]; simp, s, by simp only [partAt, if_pos, h2], h3⟩
  | .give f a, p0, q, h => by
    simp only [plc, List.mem_append] at h
    rcases h with (h | h) | h
    · split at h
      · rename_i hc
        exact ⟨[], by rw [List.mem_singleton.mp h]; simp, .give f a, by simp only [partAt], hc⟩
      · cases h
    · obtain ⟨r, h1, s, h2, h3⟩ := plc_vd f (p0 ++ [0]) q h
      exact ⟨0 :: r, by rw [h1]; simp, s, by simp only [partAt, if_pos, h2], h3⟩
    · obtain ⟨r, h1, s, h2, h3⟩ := plc_vd a (p0 ++ [1]) q h
      exact ⟨1 :: r, by rw [h1]; simp, s, by simp [partAt, h2], h3⟩
  | .pair f a, p0, q, h => by
    simp only [plc, List.mem_append] at h
    rcases h with h | h
    · obtain ⟨r, h1, s, h2, h3⟩ := plc_vd f (p0 ++ [0]) q h
      exact ⟨0 :: r, by rw [h1]; simp, s, by simp only [partAt, if_pos, h2], h3⟩
    · obtain ⟨r, h1, s, h2, h3⟩ := plc_vd a (p0 ++ [1]) q h
      exact ⟨1 :: r, by rw [h1]; simp, s, by simp [partAt, h2], h3⟩
  | .first p, p0, q, h => by
    simp only [plc, List.mem_append] at h
    rcases h with h | h
    · split at h
      · rename_i hc
        exact ⟨[], by rw [List.mem_singleton.mp h]; simp, .first p, by simp only [partAt], hc⟩
      · cases h
    · obtain ⟨r, h1, s, h2, h3⟩ := plc_vd p (p0 ++ [0]) q h
      exact ⟨0 :: r, by rw [h1]; simp, s, by simp only [partAt, if_pos, h2], h3⟩
  | .second p, p0, q, h => by
    simp only [plc, List.mem_append] at h
    rcases h with h | h
    · split at h
      · rename_i hc
        exact ⟨[], by rw [List.mem_singleton.mp h]; simp, .second p, by simp only [partAt], hc⟩
      · cases h
    · obtain ⟨r, h1, s, h2, h3⟩ := plc_vd p (p0 ++ [0]) q h
      exact ⟨0 :: r, by rw [h1]; simp, s, by simp only [partAt, if_pos, h2], h3⟩
/-! ### well formed -/
theorem ri_lt {x : Str} : ∀ {c : List Str} {i : Nat}, ri c x = some i → i < c.length
  | [], _, h => by simp [ri] at h
  | y :: c, i, h => by
    unfold ri at h
    split at h
    · cases h; simp
    · obtain ⟨j, h1, rfl⟩ := Option.map_eq_some_iff.mp h
      have := ri_lt h1
      rw [List.length_cons]; omega
end Kf
/-! Kls: lists of lists of numbers, owned ones too. -/
namespace Kf
open PySem PySem.Spec L2
open PyProof.Rows hiding St
theorem isPys_ints (q : List Int) : isPys (q.map D.int) = true := by
  rw [isPys_all, List.all_eq_true]
  intro d hd
  obtain ⟨t, _, rfl⟩ := List.mem_map.mp hd
  simp only [isPy]
theorem isPy_dI (q : List Int) : isPy (dI q) = true := by simp only [dI, isPy, isPys_ints]
theorem isPys_dI (qs : List (List Int)) : isPys (qs.map dI) = true := by
  rw [isPys_all, List.all_eq_true]
  intro d hd
  obtain ⟨t, _, rfl⟩ := List.mem_map.mp hd
  exact isPy_dI t
theorem deqs_ints : ∀ q : List Int, deqs (q.map D.int) (q.map D.int) = true
  | [] => deqs_nn
  | a :: q => by rw [List.map_cons, deqs_cc, deqs_ints q, deq_i]; simp
theorem deqs_dI : ∀ qs : List (List Int), deqs (qs.map dI) (qs.map dI) = true
  | [] => deqs_nn
  | a :: q => by rw [List.map_cons, deqs_cc, deqs_dI q]; simp only [dI, deq_l, deqs_ints]; rfl
theorem dp_ints (q : List Int) : dp (.lst (q.map D.int)) ≤ 1 := by
  simp only [dp, toPy, PyData.depth]
  have : ∀ q : List Int, PyData.depthAll (toPys (q.map D.int)) = 0 := by
    intro q
    induction q with
    | nil => simp [toPys, PyData.depthAll]
    | cons a q ih => simp [toPys, PyData.depthAll, toPy, PyData.depth, ih]
  rw [this]; decide
theorem dp_dI (qs : List (List Int)) : dp (.lst (qs.map dI)) ≤ 2 := by
  simp only [dp, toPy, PyData.depth]
  have : ∀ qs : List (List Int), PyData.depthAll (toPys (qs.map dI)) ≤ 1 := by
    intro qs
    induction qs with
    | nil => simp [toPys, PyData.depthAll]
    | cons a q ih =>
      have h := dp_ints a
      simp only [dp] at h
      simp only [List.map_cons, toPys, PyData.depthAll, dI]
      omega
  have := this qs
  omega
section
variable {O : Ow} {neg : Bool} {Q : VD}
theorem rEq_ints (q : List Int) : rEqD neg (dI q) (dI q) O Q = Q (.bl (!neg)) O := by
  rw [rEq_d (by rw [show deref O (dI q) = dI q from rfl]; exact isPy_dI q) (by rw [show deref O (dI q) = dI q from rfl]; exact isPy_dI q) (by rw [show deref O (dI q) = dI q from rfl]; have := dp_ints q; simp only [dI]; omega), show deref O (dI q) = dI q from rfl]
  simp only [dI, deq_l, deqs_ints]
  cases neg <;> rfl
end
/-! ### the lists within a thing -/
def Ls (O : Ow) : Nat → D → List Addr → Prop
  | _, .int _, rs => rs = []
  | n + 1, .ref a, rs => ∃ ds rss, O a = some (.lst ds) ∧ Paired (fun d r => Ls O n d r) ds rss ∧ rs = a :: rss.flatten
  | _, _, _ => False
theorem Ls.mono {O O' : Ow} (s : Sub O O') : ∀ {n : Nat} {x : D} {rs : List Addr}, Ls O n x rs → Ls O' n x rs
  | n, .int _, rs, h => by cases n <;> simpa only [Ls] using h
  | n + 1, .ref a, rs, h => by
    simp only [Ls] at h ⊢
    obtain ⟨ds, rss, h1, h2, h3⟩ := h
    exact ⟨ds, rss, s _ _ h1, Paired.mapP h2 fun _ _ z => Ls.mono s z, h3⟩
  | 0, .ref a, rs, h => by simp [Ls] at h
  | n, .non, rs, h => by cases n <;> simp [Ls] at h
  | n, .bl _, rs, h => by cases n <;> simp [Ls] at h
  | n, .str _, rs, h => by cases n <;> simp [Ls] at h
  | n, .tup _, rs, h => by cases n <;> simp [Ls] at h
  | n, .lst _, rs, h => by cases n <;> simp [Ls] at h
  | n, .ty _, rs, h => by cases n <;> simp [Ls] at h
  | n, .scr _, rs, h => by cases n <;> simp [Ls] at h
  | n, .edic, rs, h => by cases n <;> simp [Ls] at h
  | n, .tupK _, rs, h => by cases n <;> simp [Ls] at h
end Kf
/-! Kpw: the parts of a program, put back. -/
namespace Kf
open PySem PySem.Spec L2
open PyProof.Rows hiding St
def setIns : Pg → List Pg → Pg
  | .take x k _, [b] => .take x k b
  | .give _ _, [f, a] => .give f a
  | .pair _ _, [f, a] => .pair f a
  | .first _, [p] => .first p
  | .second _, [p] => .second p
  | p, _ => p
theorem partAt_cons {p q : Pg} {i : Int} {r : List Int} (h : partAt p (i :: r) = some q) : ∃ c, 0 ≤ i ∧ i < p.ins.length ∧ atI p.ins i = some c ∧ ixN p.ins.length i = some i.toNat ∧ c ∈ p.ins ∧ partAt c r = some q ∧ ∀ w, withPart p (i :: r) w = setIns p (p.ins.set i.toNat (withPart c r w)) := by
  cases p with
  | nm x => simp [partAt] at h
  | thing => simp [partAt] at h
  | take x k b =>
    simp only [partAt] at h
    split at h <;> first | cases h; done | skip
    rename_i hi
    subst hi
    exact ⟨b, by decide, by simp [Pg.ins], ixC0 _ _, rfl, by simp [Pg.ins], h, fun w => rfl⟩
  | first b =>
    simp only [partAt] at h
    split at h <;> first | cases h; done | skip
    rename_i hi
    subst hi
    exact ⟨b, by decide, by simp [Pg.ins], ixC0 _ _, rfl, by simp [Pg.ins], h, fun w => rfl⟩
  | second b =>
    simp only [partAt] at h
    split at h <;> first | cases h; done | skip
    rename_i hi
    subst hi
    exact ⟨b, by decide, by simp [Pg.ins], ixC0 _ _, rfl, by simp [Pg.ins], h, fun w => rfl⟩
  | give f a =>
    simp only [partAt] at h
    by_cases hi : i = 0
    · subst hi
      rw [if_pos rfl] at h
      exact ⟨f, by decide, by simp [Pg.ins], ixC0 _ _, rfl, by simp [Pg.ins], h, fun w => rfl⟩
    · rw [if_neg hi] at h
      split at h <;> first | cases h; done | skip
      rename_i h1
      subst h1
      exact ⟨a, by decide, by simp [Pg.ins], ixC1 _ _ _, rfl, by simp [Pg.ins], h, fun w => rfl⟩
  | pair f a =>
    simp only [partAt] at h
    by_cases hi : i = 0
    · subst hi
      rw [if_pos rfl] at h
      exact ⟨f, by decide, by simp [Pg.ins], ixC0 _ _, rfl, by simp [Pg.ins], h, fun w => rfl⟩
    · rw [if_neg hi] at h
      split at h <;> first | cases h; done | skip
      rename_i h1
      subst h1
      exact ⟨a, by decide, by simp [Pg.ins], ixC1 _ _ _, rfl, by simp [Pg.ins], h, fun w => rfl⟩
/-- names and kinds are right texts -/
def Pg.sok : Pg → Bool
  | .nm x => PyData.strOk x
  | .thing => true
  | .take x k b => PyData.strOk x && k.ok && b.sok
  | .give f a => f.sok && a.sok
  | .pair a b => a.sok && b.sok
  | .first p => p.sok
  | .second p => p.sok
theorem isPy_dP : ∀ p : Pg, isPy (dP p) = p.sok
  | .nm x => by simp [dP, isPy, isPys, Pg.sok, sw_name]
  | .thing => by simp [dP, isPy, isPys, Pg.sok, sw_thing]
  | .take x k b => by simp [dP, isPy, isPys, Pg.sok, sw_take, isPy_dK, isPy_dP b, Bool.and_assoc]
  | .give f a => by simp [dP, isPy, isPys, Pg.sok, sw_give, isPy_dP f, isPy_dP a]
  | .pair f a => by simp [dP, isPy, isPys, Pg.sok, sw_pair, isPy_dP f, isPy_dP a]
  | .first f => by simp [dP, isPy, isPys, Pg.sok, sw_first, isPy_dP f]
  | .second f => by simp [dP, isPy, isPys, Pg.sok, sw_second, isPy_dP f]
theorem len2 {α : Type} {l : List α} (h : l.length = 2) : ∃ c d, l = [c, d] := by
  match l, h with
  | [c, d], _ => exact ⟨c, d, rfl⟩
/-- how deep a program is as data -/
def Pg.dpt : Pg → Nat
  | .nm _ => 1
  | .thing => 1
  | .take _ k b => max (k.depth + 1) b.dpt + 1
  | .give f a => max f.dpt a.dpt + 1
  | .pair f a => max f.dpt a.dpt + 1
  | .first p => p.dpt + 1
  | .second p => p.dpt + 1
theorem dp_dP : ∀ p : Pg, dp (dP p) = p.dpt
  | .nm x => by simp [dP, dp, toPy, toPys, PyData.depth, PyData.depthAll, Pg.dpt]
  | .thing => by simp [dP, dp, toPy, toPys, PyData.depth, PyData.depthAll, Pg.dpt]
  | .take x k b => by
    have h1 := dp_dK k
    have h2 := dp_dP b
    simp only [dp] at h1 h2
    simp [dP, dp, toPy, toPys, PyData.depth, PyData.depthAll, Pg.dpt, h1, h2]
  | .give f a => by
    have h1 := dp_dP f
    have h2 := dp_dP a
    simp only [dp] at h1 h2
    simp [dP, dp, toPy, toPys, PyData.depth, PyData.depthAll, Pg.dpt, h1, h2]
  | .pair f a => by
    have h1 := dp_dP f
    have h2 := dp_dP a
    simp only [dp] at h1 h2
    simp [dP, dp, toPy, toPys, PyData.depth, PyData.depthAll, Pg.dpt, h1, h2]
  | .first f => by
    have h1 := dp_dP f
    simp only [dp] at h1
    simp [dP, dp, toPy, toPys, PyData.depth, PyData.depthAll, Pg.dpt, h1]
  | .second f => by
    have h1 := dp_dP f
    simp only [dp] at h1
    simp [dP, dp, toPy, toPys, PyData.depth, PyData.depthAll, Pg.dpt, h1]
theorem ins_ok {p q : Pg} (h : q ∈ p.ins) (hs : p.sok = true) : q.sok = true ∧ q.dpt < p.dpt := by
  cases p <;> simp only [Pg.ins, List.mem_cons, List.not_mem_nil, or_false] at h
  · subst h; simp only [Pg.sok, Bool.and_eq_true] at hs; exact ⟨hs.2, by simp only [Pg.dpt]; omega⟩
  · simp only [Pg.sok, Bool.and_eq_true] at hs
    rcases h with rfl | rfl
    · exact ⟨hs.1, by simp only [Pg.dpt]; omega⟩
    · exact ⟨hs.2, by simp only [Pg.dpt]; omega⟩
  · simp only [Pg.sok, Bool.and_eq_true] at hs
    rcases h with rfl | rfl
    · exact ⟨hs.1, by simp only [Pg.dpt]; omega⟩
    · exact ⟨hs.2, by simp only [Pg.dpt]; omega⟩
  · subst h; exact ⟨hs, by simp only [Pg.dpt]; omega⟩
  · subst h; exact ⟨hs, by simp only [Pg.dpt]; omega⟩
theorem withPart_ok {w : Pg} (hw : w.sok = true) : ∀ (p : Pg) (pl : List Int), p.sok = true → (withPart p pl w).sok = true ∧ (withPart p pl w).dpt ≤ p.dpt + w.dpt
  | p, [], hp => by simp only [withPart]; exact ⟨hw, by omega⟩
  | .nm x, i :: pl, hp => by simp only [withPart]; exact ⟨hp, by omega⟩
  | .thing, i :: pl, hp => by simp only [withPart]; exact ⟨hp, by omega⟩
  | .take x k b, i :: pl, hp => by
    simp only [Pg.sok, Bool.and_eq_true] at hp
    have := withPart_ok hw b pl hp.2
    simp only [withPart, Pg.sok, Pg.dpt, hp.1.1, hp.1.2, this.1, Bool.and_self, true_and]
    omega
  | .give f a, i :: pl, hp => by
    simp only [Pg.sok, Bool.and_eq_true] at hp
    have h1 := withPart_ok hw f pl hp.1
    have h2 := withPart_ok hw a pl hp.2
    simp only [withPart]
    split
    · simp only [Pg.sok, Pg.dpt, h1.1, hp.2, Bool.and_self, true_and]; omega
    · simp only [Pg.sok, Pg.dpt, h2.1, hp.1, Bool.and_self, true_and]; omega
  | .pair f a, i :: pl, hp => by
    simp only [Pg.sok, Bool.and_eq_true] at hp
    have h1 := withPart_ok hw f pl hp.1
    have h2 := withPart_ok hw a pl hp.2
    simp only [withPart]
    split
    · simp only [Pg.sok, Pg.dpt, h1.1, hp.2, Bool.and_self, true_and]; omega
    · simp only [Pg.sok, Pg.dpt, h2.1, hp.1, Bool.and_self, true_and]; omega
  | .first p, i :: pl, hp => by
    have := withPart_ok hw p pl hp
    simp only [withPart, Pg.sok, Pg.dpt, this.1, true_and]; omega
  | .second p, i :: pl, hp => by
    have := withPart_ok hw p pl hp
    simp only [withPart, Pg.sok, Pg.dpt, this.1, true_and]; omega
end Kf
/-! Krn: steps one behind another, names told by numbers; how many parts. -/
namespace Kf
open PySem PySem.Spec L2
open PyProof.Rows hiding St
def dB : Db → D
  | .at i => .tup [.str "at", .int i]
  | .nm x => .tup [.str "name", .str x]
  | .thing => .tup [.str "thing"]
  | .take k b => .tup [.str "take", .str "", dK k, dB b]
  | .give f a => .tup [.str "give", dB f, dB a]
  | .pair a b => .tup [.str "pair", dB a, dB b]
  | .first p => .tup [.str "first", dB p]
  | .second p => .tup [.str "second", dB p]
def Db.hgt : Db → Nat
  | .at _ => 0
  | .nm _ => 0
  | .thing => 0
  | .take _ b => b.hgt + 1
  | .give f a => max f.hgt a.hgt + 1
  | .pair a b => max a.hgt b.hgt + 1
  | .first p => p.hgt + 1
  | .second p => p.hgt + 1
def Db.ab : Db → Nat → Prop
  | .at i, n => i < n
  | .nm _, _ => True
  | .thing, _ => True
  | .take _ b, n => b.ab n
  | .give f a, n => f.ab n ∧ a.ab n
  | .pair a b, n => a.ab n ∧ b.ab n
  | .first p, n => p.ab n
  | .second p, n => p.ab n
/-! ### steps with names told by numbers -/
def VdB : Db → List Int → Prop
  | .give f _, [] => ∃ k c, f = .take k c
  | .first p, [] => ∃ a c, p = .pair a c
  | .second p, [] => ∃ a c, p = .pair a c
  | .take _ b, i :: pl => i = 0 ∧ VdB b pl
  | .give f a, i :: pl => (i = 0 ∧ VdB f pl) ∨ (i = 1 ∧ VdB a pl)
  | .pair f a, i :: pl => (i = 0 ∧ VdB f pl) ∨ (i = 1 ∧ VdB a pl)
  | .first p, i :: pl => i = 0 ∧ VdB p pl
  | .second p, i :: pl => i = 0 ∧ VdB p pl
  | _, _ => False
theorem vdB_of : ∀ (p : Pg) (pl : List Int) (c : List Str), Vd p pl → VdB (bare p c) pl
  | .give f a, [], c, ⟨q, hq, hc⟩ => by
    simp only [partAt, Option.some.injEq] at hq
    subst hq
    cases f <;> first | (simp [Pg.can, Pg.isTake] at hc; done) | exact ⟨_, _, rfl⟩
  | .first f, [], c, ⟨q, hq, hc⟩ => by
    simp only [partAt, Option.some.injEq] at hq
    subst hq
    cases f <;> first | (simp [Pg.can, Pg.isPair] at hc; done) | exact ⟨_, _, rfl⟩
  | .second f, [], c, ⟨q, hq, hc⟩ => by
    simp only [partAt, Option.some.injEq] at hq
    subst hq
    cases f <;> first | (simp [Pg.can, Pg.isPair] at hc; done) | exact ⟨_, _, rfl⟩
  | .nm x, [], c, ⟨q, hq, hc⟩ => by
    simp only [partAt, Option.some.injEq] at hq
    subst hq
    simp [Pg.can] at hc
  | .thing, [], c, ⟨q, hq, hc⟩ => by
    simp only [partAt, Option.some.injEq] at hq
    subst hq
    simp [Pg.can] at hc
  | .take x k b, [], c, ⟨q, hq, hc⟩ => by
    simp only [partAt, Option.some.injEq] at hq
    subst hq
    simp [Pg.can] at hc
  | .pair x b, [], c, ⟨q, hq, hc⟩ => by
    simp only [partAt, Option.some.injEq] at hq
    subst hq
    simp [Pg.can] at hc
  | .take x k b, i :: pl, c, ⟨q, hq, hc⟩ => by
    simp only [partAt] at hq
    split at hq <;> first | cases hq; done | skip
    rename_i hi
    exact ⟨hi, vdB_of b pl (x :: c) ⟨q, hq, hc⟩⟩
  | .give f a, i :: pl, c, ⟨q, hq, hc⟩ => by
    simp only [partAt] at hq
    split at hq
    · rename_i hi; exact .inl ⟨hi, vdB_of f pl c ⟨q, hq, hc⟩⟩
    · split at hq <;> first | cases hq; done | skip
      rename_i hi; exact .inr ⟨hi, vdB_of a pl c ⟨q, hq, hc⟩⟩
  | .pair f a, i :: pl, c, ⟨q, hq, hc⟩ => by
    simp only [partAt] at hq
    split at hq
    · rename_i hi; exact .inl ⟨hi, vdB_of f pl c ⟨q, hq, hc⟩⟩
    · split at hq <;> first | cases hq; done | skip
      rename_i hi; exact .inr ⟨hi, vdB_of a pl c ⟨q, hq, hc⟩⟩
  | .first p, i :: pl, c, ⟨q, hq, hc⟩ => by
    simp only [partAt] at hq
    split at hq <;> first | cases hq; done | skip
    rename_i hi
    exact ⟨hi, vdB_of p pl c ⟨q, hq, hc⟩⟩
  | .second p, i :: pl, c, ⟨q, hq, hc⟩ => by
    simp only [partAt] at hq
    split at hq <;> first | cases hq; done | skip
    rename_i hi
    exact ⟨hi, vdB_of p pl c ⟨q, hq, hc⟩⟩
  | .nm x, i :: pl, c, ⟨q, hq, hc⟩ => by simp [partAt] at hq
  | .thing, i :: pl, c, ⟨q, hq, hc⟩ => by simp [partAt] at hq
theorem bare_hgt : ∀ (p : Pg) (c : List Str), (bare p c).hgt = p.hgt
  | .nm x, c => by simp only [bare]; cases ri c x <;> rfl
  | .thing, _ => rfl
  | .take x k b, c => by simp only [bare, Db.hgt, Pg.hgt, bare_hgt b]
  | .give f a, c => by simp only [bare, Db.hgt, Pg.hgt, bare_hgt f, bare_hgt a]
  | .pair f a, c => by simp only [bare, Db.hgt, Pg.hgt, bare_hgt f, bare_hgt a]
  | .first f, c => by simp only [bare, Db.hgt, Pg.hgt, bare_hgt f]
  | .second f, c => by simp only [bare, Db.hgt, Pg.hgt, bare_hgt f]
theorem dress_hgt : ∀ (b : Db) (m : Nat), (dress b m).hgt = b.hgt
  | .at i, m => rfl
  | .nm x, m => rfl
  | .thing, _ => rfl
  | .take k b, c => by simp only [dress, Db.hgt, Pg.hgt, dress_hgt b]
  | .give f a, c => by simp only [dress, Db.hgt, Pg.hgt, dress_hgt f, dress_hgt a]
  | .pair f a, c => by simp only [dress, Db.hgt, Pg.hgt, dress_hgt f, dress_hgt a]
  | .first f, c => by simp only [dress, Db.hgt, Pg.hgt, dress_hgt f]
  | .second f, c => by simp only [dress, Db.hgt, Pg.hgt, dress_hgt f]
theorem moved_hgt : ∀ (b : Db) (f n : Nat), (moved b f n).hgt = b.hgt
  | .at i, f, n => rfl
  | .nm x, _, _ => rfl
  | .thing, _, _ => rfl
  | .take k b, f, n => by simp only [moved, Db.hgt, moved_hgt b]
  | .give g a, f, n => by simp only [moved, Db.hgt, moved_hgt g, moved_hgt a]
  | .pair g a, f, n => by simp only [moved, Db.hgt, moved_hgt g, moved_hgt a]
  | .first p, f, n => by simp only [moved, Db.hgt, moved_hgt p]
  | .second p, f, n => by simp only [moved, Db.hgt, moved_hgt p]
theorem put_hgt {a : Db} : ∀ (b : Db) (t : Nat), (put b t a).hgt ≤ b.hgt + a.hgt
  | .at i, t => by
    simp only [put]; split
    · rw [moved_hgt]; omega
    · simp [Db.hgt]
  | .nm x, _ => by simp [put, Db.hgt]
  | .thing, _ => by simp [put, Db.hgt]
  | .take k b, t => by have := put_hgt (a := a) b (t + 1); simp only [put, Db.hgt]; omega
  | .give f b, t => by have := put_hgt (a := a) f t; have := put_hgt (a := a) b t; simp only [put, Db.hgt]; omega
  | .pair f b, t => by have := put_hgt (a := a) f t; have := put_hgt (a := a) b t; simp only [put, Db.hgt]; omega
  | .first b, t => by have := put_hgt (a := a) b t; simp only [put, Db.hgt]; omega
  | .second b, t => by have := put_hgt (a := a) b t; simp only [put, Db.hgt]; omega
theorem stepB_hgt : ∀ (b : Db) (pl : List Int), VdB b pl → (stepB b pl).hgt ≤ 2 * b.hgt
  | .give f a, [], ⟨k, c, e⟩ => by
    subst e
    have := put_hgt (a := a) c 0
    simp only [stepB, Db.hgt]; omega
  | .first p, [], ⟨a, c, e⟩ => by subst e; simp only [stepB, Db.hgt]; omega
  | .second p, [], ⟨a, c, e⟩ => by subst e; simp only [stepB, Db.hgt]; omega
  | .take k b, i :: pl, h => by have := stepB_hgt b pl h.2; simp only [stepB, Db.hgt]; omega
  | .give f a, i :: pl, h => by
    rcases h with ⟨rfl, h⟩ | ⟨rfl, h⟩
    · have := stepB_hgt f pl h; simp only [stepB, if_true, Db.hgt]; omega
    · have := stepB_hgt a pl h; simp only [stepB, Int.reduceEq, if_false, Db.hgt]; omega
  | .pair f a, i :: pl, h => by
    rcases h with ⟨rfl, h⟩ | ⟨rfl, h⟩
    · have := stepB_hgt f pl h; simp only [stepB, if_true, Db.hgt]; omega
    · have := stepB_hgt a pl h; simp only [stepB, Int.reduceEq, if_false, Db.hgt]; omega
  | .first p, i :: pl, h => by have := stepB_hgt p pl h.2; simp only [stepB, Db.hgt]; omega
  | .second p, i :: pl, h => by have := stepB_hgt p pl h.2; simp only [stepB, Db.hgt]; omega
theorem wf_moved {m j : Nat} : ∀ (a : Db) (e : Nat), Wf a (m + e) → Wf (moved a e j) (m + e + j)
  | .at i, e, h => by simp only [Wf, moved] at h ⊢; split <;> omega
  | .nm x, e, h => h
  | .thing, _, _ => trivial
  | .take k b, e, h => by
    have := wf_moved (j := j) b (e + 1) (by simpa only [Wf, Nat.add_assoc] using h)
    simp only [moved, Wf]
    rw [show m + e + j + 1 = m + (e + 1) + j by omega]; exact this
  | .give f a, e, h => ⟨wf_moved f e h.1, wf_moved a e h.2⟩
  | .pair f a, e, h => ⟨wf_moved f e h.1, wf_moved a e h.2⟩
  | .first p, e, h => wf_moved (m := m) (j := j) p e h
  | .second p, e, h => wf_moved (m := m) (j := j) p e h
theorem wf_put {m : Nat} {a : Db} (ha : Wf a m) : ∀ (b : Db) (j : Nat), Wf b (m + 1 + j) → Wf (put b j a) (m + j)
  | .at i, j, h => by
    simp only [Wf] at h
    simp only [put]
    split
    · exact wf_moved (m := m) (j := j) a 0 ha
    · simp only [Wf]; split <;> omega
  | .nm x, j, h => h
  | .thing, _, _ => trivial
  | .take k b, j, h => by
    simp only [put, Wf]
    exact wf_put ha b (j + 1) h
  | .give f b, j, h => ⟨wf_put ha f j h.1, wf_put ha b j h.2⟩
  | .pair f b, j, h => ⟨wf_put ha f j h.1, wf_put ha b j h.2⟩
  | .first p, j, h => wf_put (m := m) ha p j h
  | .second p, j, h => wf_put (m := m) ha p j h
theorem wf_step : ∀ (b : Db) (pl : List Int) (m : Nat), Wf b m → VdB b pl → Wf (stepB b pl) m
  | .give f a, [], m, h, ⟨k, c, e⟩ => by subst e; exact wf_put (m := m) h.2 c 0 h.1
  | .first p, [], m, h, ⟨a, c, e⟩ => by subst e; exact h.1
  | .second p, [], m, h, ⟨a, c, e⟩ => by subst e; exact h.2
  | .take k b, i :: pl, m, h, v => wf_step b pl (m + 1) h v.2
  | .give f a, i :: pl, m, h, v => by
    rcases v with ⟨rfl, v⟩ | ⟨rfl, v⟩
    · simp only [stepB, if_true]; exact ⟨wf_step f pl m h.1 v, h.2⟩
    · simp only [stepB, Int.reduceEq, if_false]; exact ⟨h.1, wf_step a pl m h.2 v⟩
  | .pair f a, i :: pl, m, h, v => by
    rcases v with ⟨rfl, v⟩ | ⟨rfl, v⟩
    · simp only [stepB, if_true]; exact ⟨wf_step f pl m h.1 v, h.2⟩
    · simp only [stepB, Int.reduceEq, if_false]; exact ⟨h.1, wf_step a pl m h.2 v⟩
  | .first p, i :: pl, m, h, v => wf_step p pl m h v.2
  | .second p, i :: pl, m, h, v => wf_step p pl m h v.2
theorem wf_ab : ∀ (b : Db) (m : Nat), Wf b m → m + b.hgt ≤ 900 → b.ab 900
  | .at i, m, h, hm => by simp only [Wf, Db.ab, Db.hgt] at *; omega
  | .nm x, _, _, _ => trivial
  | .thing, _, _, _ => trivial
  | .take k b, m, h, hm => wf_ab b (m + 1) h (by simp only [Db.hgt] at hm; omega)
  | .give f a, m, h, hm => by simp only [Db.hgt] at hm; exact ⟨wf_ab f m h.1 (by omega), wf_ab a m h.2 (by omega)⟩
  | .pair f a, m, h, hm => by simp only [Db.hgt] at hm; exact ⟨wf_ab f m h.1 (by omega), wf_ab a m h.2 (by omega)⟩
  | .first p, m, h, hm => wf_ab p m h (by simp only [Db.hgt] at hm; omega)
  | .second p, m, h, hm => wf_ab p m h (by simp only [Db.hgt] at hm; omega)

def Db.ins : Db → List Db
  | .take _ b => [b]
  | .give f a => [f, a]
  | .pair a b => [a, b]
  | .first p => [p]
  | .second p => [p]
  | _ => []
def Db.isTake : Db → Bool
  | .take .. => true
  | _ => false
def Db.isPair : Db → Bool
  | .pair .. => true
  | _ => false
def Db.can : Db → Bool
  | .give f _ => f.isTake
  | .first p => p.isPair
  | .second p => p.isPair
  | _ => false
def plcB : Db → List Int → List (List Int)
  | .at _, _ => []
  | .nm _, _ => []
  | .thing, _ => []
  | .take _ b, pl => plcB b (pl ++ [0])
  | .give f a, pl => (if f.isTake then [pl] else []) ++ plcB f (pl ++ [0]) ++ plcB a (pl ++ [1])
  | .pair a b, pl => plcB a (pl ++ [0]) ++ plcB b (pl ++ [1])
  | .first p, pl => (if p.isPair then [pl] else []) ++ plcB p (pl ++ [0])
  | .second p, pl => (if p.isPair then [pl] else []) ++ plcB p (pl ++ [0])
def plcBs : List Db → Nat → List Int → List (List Int)
  | [], _, _ => []
  | q :: qs, i, pl => plcB q (pl ++ [(i : Int)]) ++ plcBs qs (i + 1) pl
theorem plcB_eq (p : Db) (pl : List Int) : plcB p pl = (if p.can then [pl] else []) ++ plcBs p.ins 0 pl := by
  cases p <;> simp [plcB, Db.can, Db.ins, plcBs] <;> rfl
theorem insB_cases (p : Db) : p.ins = [] ∨ (∃ x, p.ins = [x]) ∨ ∃ x y, p.ins = [x, y] := by
  cases p <;> simp [Db.ins]
theorem insB_hgt {p q : Db} (h : q ∈ p.ins) : q.hgt < p.hgt := by
  cases p <;> simp only [Db.ins, List.mem_cons, List.not_mem_nil, or_false] at h
  · subst h; simp [Db.hgt]
  · rcases h with rfl | rfl <;> simp only [Db.hgt] <;> omega
  · rcases h with rfl | rfl <;> simp only [Db.hgt] <;> omega
  · subst h; simp [Db.hgt]
  · subst h; simp [Db.hgt]
theorem dress_isTake (b : Db) (m : Nat) : (dress b m).isTake = b.isTake := by cases b <;> rfl
theorem dress_isPair (b : Db) (m : Nat) : (dress b m).isPair = b.isPair := by cases b <;> rfl
theorem plc_dress : ∀ (b : Db) (m : Nat) (pl : List Int), plc (dress b m) pl = plcB b pl
  | .at i, m, pl => rfl
  | .nm x, m, pl => rfl
  | .thing, m, pl => rfl
  | .take k b, m, pl => by simp only [dress, plc, plcB, plc_dress b]
  | .give f a, m, pl => by simp only [dress, plc, plcB, plc_dress f, plc_dress a, dress_isTake]
  | .pair f a, m, pl => by simp only [dress, plc, plcB, plc_dress f, plc_dress a]
  | .first f, m, pl => by simp only [dress, plc, plcB, plc_dress f, dress_isPair]
  | .second f, m, pl => by simp only [dress, plc, plcB, plc_dress f, dress_isPair]
/-! ### how many parts -/
def Pg.psz : Pg → Nat
  | .nm _ => 1
  | .thing => 1
  | .take _ _ b => b.psz + 1
  | .give f a => f.psz + a.psz + 1
  | .pair a b => a.psz + b.psz + 1
  | .first p => p.psz + 1
  | .second p => p.psz + 1
def Db.psz : Db → Nat
  | .at _ => 1
  | .nm _ => 1
  | .thing => 1
  | .take _ b => b.psz + 1
  | .give f a => f.psz + a.psz + 1
  | .pair a b => a.psz + b.psz + 1
  | .first p => p.psz + 1
  | .second p => p.psz + 1
/-- how often a name stands -/
def nmc : Pg → Str → Nat
  | .nm x, y => if x = y then 1 else 0
  | .thing, _ => 0
  | .take _ _ b, y => nmc b y
  | .give f a, y => nmc f y + nmc a y
  | .pair f a, y => nmc f y + nmc a y
  | .first p, y => nmc p y
  | .second p, y => nmc p y
theorem Pg.psz_pos (p : Pg) : 0 < p.psz := by cases p <;> simp [Pg.psz]
theorem Db.psz_pos (p : Db) : 0 < p.psz := by cases p <;> simp [Db.psz]
theorem dress_psz : ∀ (b : Db) (m : Nat), (dress b m).psz = b.psz
  | .at i, m => rfl
  | .nm x, m => rfl
  | .thing, m => rfl
  | .take k b, m => by simp only [dress, Pg.psz, Db.psz, dress_psz b]
  | .give f a, m => by simp only [dress, Pg.psz, Db.psz, dress_psz f, dress_psz a]
  | .pair f a, m => by simp only [dress, Pg.psz, Db.psz, dress_psz f, dress_psz a]
  | .first f, m => by simp only [dress, Pg.psz, Db.psz, dress_psz f]
  | .second f, m => by simp only [dress, Pg.psz, Db.psz, dress_psz f]
theorem bare_psz : ∀ (p : Pg) (c : List Str), (bare p c).psz = p.psz
  | .nm x, c => by simp only [bare]; cases ri c x <;> rfl
  | .thing, _ => rfl
  | .take x k b, c => by simp only [bare, Db.psz, Pg.psz, bare_psz b]
  | .give f a, c => by simp only [bare, Db.psz, Pg.psz, bare_psz f, bare_psz a]
  | .pair f a, c => by simp only [bare, Db.psz, Pg.psz, bare_psz f, bare_psz a]
  | .first f, c => by simp only [bare, Db.psz, Pg.psz, bare_psz f]
  | .second f, c => by simp only [bare, Db.psz, Pg.psz, bare_psz f]
theorem tidy_psz (p : Pg) (c : List Str) : (tidy p c).psz = p.psz := by rw [tidy_eq, dress_psz, bare_psz]
theorem wgiven_psz {a : Pg} {x : Str} : ∀ b : Pg, ((wgiven b x a).psz : Int) = b.psz + nmc b x * ((a.psz : Int) - 1)
  | .nm y => by
    simp only [wgiven, nmc]
    split <;> simp [Pg.psz] <;> omega
  | .thing => by simp [wgiven, nmc, Pg.psz]
  | .take y k b => by
    have := wgiven_psz (a := a) (x := x) b
    simp only [wgiven, nmc, Pg.psz]
    omega
  | .give f b => by
    have h1 := wgiven_psz (a := a) (x := x) f
    have h2 := wgiven_psz (a := a) (x := x) b
    simp only [wgiven, nmc, Pg.psz]
    have e : ((nmc f x + nmc b x : Nat) : Int) * ((a.psz : Int) - 1) = (nmc f x : Int) * ((a.psz : Int) - 1) + (nmc b x : Int) * ((a.psz : Int) - 1) := by rw [Int.natCast_add, Int.add_mul]
    rw [e]
    omega
  | .pair f b => by
    have h1 := wgiven_psz (a := a) (x := x) f
    have h2 := wgiven_psz (a := a) (x := x) b
    simp only [wgiven, nmc, Pg.psz]
    have e : ((nmc f x + nmc b x : Nat) : Int) * ((a.psz : Int) - 1) = (nmc f x : Int) * ((a.psz : Int) - 1) + (nmc b x : Int) * ((a.psz : Int) - 1) := by rw [Int.natCast_add, Int.add_mul]
    rw [e]
    omega
  | .first b => by
    have := wgiven_psz (a := a) (x := x) b
    simp only [wgiven, nmc, Pg.psz]
    omega
  | .second b => by
    have := wgiven_psz (a := a) (x := x) b
    simp only [wgiven, nmc, Pg.psz]
    omega
theorem withPart_psz {w : Pg} : ∀ (p : Pg) (pl : List Int) (q : Pg), partAt p pl = some q → (withPart p pl w).psz + q.psz = p.psz + w.psz
  | p, [], q, h => by
    simp only [partAt, Option.some.injEq] at h
    subst h
    simp only [withPart]; omega
  | .take x k b, i :: pl, q, h => by
    simp only [partAt] at h
    split at h <;> first | cases h; done | skip
    have := withPart_psz (w := w) b pl q h
    simp only [withPart, Pg.psz]; omega
  | .give f a, i :: pl, q, h => by
    simp only [partAt] at h
    by_cases hi : i = 0
    · rw [if_pos hi] at h
      have := withPart_psz (w := w) f pl q h
      simp only [withPart, if_pos hi, Pg.psz]; omega
    · rw [if_neg hi] at h
      split at h <;> first | cases h; done | skip
      have := withPart_psz (w := w) a pl q h
      simp only [withPart, if_neg hi, Pg.psz]; omega
  | .pair f a, i :: pl, q, h => by
    simp only [partAt] at h
    by_cases hi : i = 0
    · rw [if_pos hi] at h
      have := withPart_psz (w := w) f pl q h
      simp only [withPart, if_pos hi, Pg.psz]; omega
    · rw [if_neg hi] at h
      split at h <;> first | cases h; done | skip
      have := withPart_psz (w := w) a pl q h
      simp only [withPart, if_neg hi, Pg.psz]; omega
  | .first b, i :: pl, q, h => by
    simp only [partAt] at h
    split at h <;> first | cases h; done | skip
    have := withPart_psz (w := w) b pl q h
    simp only [withPart, Pg.psz]; omega
  | .second b, i :: pl, q, h => by
    simp only [partAt] at h
    split at h <;> first | cases h; done | skip
    have := withPart_psz (w := w) b pl q h
    simp only [withPart, Pg.psz]; omega
  | .nm x, i :: pl, q, h => by simp [partAt] at h
  | .thing, i :: pl, q, h => by simp [partAt] at h
/-- what parts_that_come adds up -/
def ptc (p q : Pg) : Int := match q with
  | .give (.take x _ b) a => (p.psz : Int) - q.psz + b.psz + nmc b x * ((a.psz : Int) - 1)
  | _ => (p.psz : Int) - q.psz + (wc q).psz
theorem ptc_eq {p q : Pg} {pl : List Int} (h : partAt p pl = some q) : ptc p q = (stepP p pl).psz := by
  have h1 := withPart_psz (w := wc q) p pl q h
  have es : stepP p pl = withPart p pl (wc q) := by simp only [stepP, h]
  rw [es]
  unfold ptc
  split
  · rename_i x k b a
    have h2 := wgiven_psz (a := a) (x := x) b
    simp only [wc] at h1 ⊢
    omega
  · omega
theorem plcB_psz : ∀ (b : Db) (pl : List Int), (plcB b pl).length < b.psz
  | .at i, _ => by simp [plcB, Db.psz]
  | .nm i, _ => by simp [plcB, Db.psz]
  | .thing, _ => by simp [plcB, Db.psz]
  | .take k b, pl => by have := plcB_psz b (pl ++ [0]); simp only [plcB, Db.psz]; omega
  | .give f a, pl => by
    have := plcB_psz f (pl ++ [0])
    have := plcB_psz a (pl ++ [1])
    have h5 : (if f.isTake then [pl] else []).length ≤ 1 := by split <;> simp
    simp only [plcB, Db.psz, List.length_append]; omega
  | .pair f a, pl => by
    have := plcB_psz f (pl ++ [0])
    have := plcB_psz a (pl ++ [1])
    simp only [plcB, Db.psz, List.length_append]; omega
  | .first f, pl => by
    have := plcB_psz f (pl ++ [0])
    have h5 : (if f.isPair then [pl] else []).length ≤ 1 := by split <;> simp
    simp only [plcB, Db.psz, List.length_append]; omega
  | .second f, pl => by
    have := plcB_psz f (pl ++ [0])
    have h5 : (if f.isPair then [pl] else []).length ≤ 1 := by split <;> simp
    simp only [plcB, Db.psz, List.length_append]; omega
/-! ### names and kinds are right ones -/
def Db.ok : Db → Prop
  | .at _ => True
  | .nm x => PyData.strOk x = true
  | .thing => True
  | .take k b => k.ok = true ∧ k.depth ≤ 12 ∧ b.ok
  | .give f a => f.ok ∧ a.ok
  | .pair f a => f.ok ∧ a.ok
  | .first p => p.ok
  | .second p => p.ok
theorem ok_movedB : ∀ (b : Db) (f n : Nat), b.ok → (moved b f n).ok
  | .at i, f, n, _ => trivial
  | .nm x, _, _, h => h
  | .thing, _, _, _ => trivial
  | .take k b, f, n, h => ⟨h.1, h.2.1, ok_movedB b _ _ h.2.2⟩
  | .give g a, f, n, h => ⟨ok_movedB g _ _ h.1, ok_movedB a _ _ h.2⟩
  | .pair g a, f, n, h => ⟨ok_movedB g _ _ h.1, ok_movedB a _ _ h.2⟩
  | .first p, f, n, h => ok_movedB p f n h
  | .second p, f, n, h => ok_movedB p f n h
theorem ok_putBd {a : Db} (ha : a.ok) : ∀ (b : Db) (t : Nat), b.ok → (put b t a).ok
  | .at i, t, _ => by
    simp only [put]; split
    · exact ok_movedB a _ _ ha
    · trivial
  | .nm x, _, h => h
  | .thing, _, _ => trivial
  | .take k b, t, h => ⟨h.1, h.2.1, ok_putBd ha b _ h.2.2⟩
  | .give f b, t, h => ⟨ok_putBd ha f t h.1, ok_putBd ha b t h.2⟩
  | .pair f b, t, h => ⟨ok_putBd ha f t h.1, ok_putBd ha b t h.2⟩
  | .first b, t, h => ok_putBd (a := a) ha b t h
  | .second b, t, h => ok_putBd (a := a) ha b t h
theorem ok_stepB : ∀ (b : Db) (pl : List Int), VdB b pl → b.ok → (stepB b pl).ok
  | .give f a, [], ⟨k, c, e⟩, h => by subst e; exact ok_putBd h.2 c 0 h.1.2.2
  | .first p, [], ⟨a, c, e⟩, h => by subst e; exact h.1
  | .second p, [], ⟨a, c, e⟩, h => by subst e; exact h.2
  | .take k b, i :: pl, v, h => ⟨h.1, h.2.1, ok_stepB b pl v.2 h.2.2⟩
  | .give f a, i :: pl, v, h => by
    rcases v with ⟨rfl, v⟩ | ⟨rfl, v⟩
    · simp only [stepB, if_true]; exact ⟨ok_stepB f pl v h.1, h.2⟩
    · simp only [stepB, Int.reduceEq, if_false]; exact ⟨h.1, ok_stepB a pl v h.2⟩
  | .pair f a, i :: pl, v, h => by
    rcases v with ⟨rfl, v⟩ | ⟨rfl, v⟩
    · simp only [stepB, if_true]; exact ⟨ok_stepB f pl v h.1, h.2⟩
    · simp only [stepB, Int.reduceEq, if_false]; exact ⟨h.1, ok_stepB a pl v h.2⟩
  | .first p, i :: pl, v, h => ok_stepB p pl v.2 h
  | .second p, i :: pl, v, h => ok_stepB p pl v.2 h
theorem xn_ok512 : ∀ k, k < 512 → PyData.strOk (xn k) = true := by
  have h : ∀ k ∈ List.range 512, PyData.strOk (xn k) = true := by decide +kernel
  exact fun k hk => h k (List.mem_range.mpr hk)
theorem ok_dressB : ∀ (b : Db) (m : Nat), b.ok → m + b.hgt < 512 → (dress b m).sok = true ∧ (dress b m).dpt ≤ b.hgt + 15
  | .at i, m, _, hm => ⟨xn_ok512 _ (by simp only [Db.hgt] at hm; omega), by simp [dress, Pg.dpt]⟩
  | .nm x, _, h, _ => ⟨h, by simp [dress, Pg.dpt]⟩
  | .thing, _, _, _ => ⟨rfl, by simp [dress, Pg.dpt]⟩
  | .take k b, m, h, hm => by
    simp only [Db.hgt] at hm
    have ih := ok_dressB b (m + 1) h.2.2 (by omega)
    have := h.2.1
    simp only [dress, Pg.sok, Pg.dpt, Db.hgt, xn_ok512 m (by omega), h.1, ih.1, Bool.and_self, true_and]
    omega
  | .give f a, m, h, hm => by
    simp only [Db.hgt] at hm
    have h1 := ok_dressB f m h.1 (by omega)
    have h2 := ok_dressB a m h.2 (by omega)
    simp only [dress, Pg.sok, Pg.dpt, Db.hgt, h1.1, h2.1, Bool.and_self, true_and]
    omega
  | .pair f a, m, h, hm => by
    simp only [Db.hgt] at hm
    have h1 := ok_dressB f m h.1 (by omega)
    have h2 := ok_dressB a m h.2 (by omega)
    simp only [dress, Pg.sok, Pg.dpt, Db.hgt, h1.1, h2.1, Bool.and_self, true_and]
    omega
  | .first p, m, h, hm => by
    simp only [Db.hgt] at hm
    have h1 := ok_dressB p m h (by omega)
    simp only [dress, Pg.sok, Pg.dpt, Db.hgt, h1.1, true_and]
    omega
  | .second p, m, h, hm => by
    simp only [Db.hgt] at hm
    have h1 := ok_dressB p m h (by omega)
    simp only [dress, Pg.sok, Pg.dpt, Db.hgt, h1.1, true_and]
    omega
/-! ### runs -/
theorem plc_place : ∀ (p : Pg) (pl : List Int) (q : List Int), q ∈ plc p pl → q.length ≤ pl.length + p.hgt
  | .nm _, pl, q, h => by simp [plc] at h
  | .thing, pl, q, h => by simp [plc] at h
  | .take _ _ b, pl, q, h => by
    have := plc_place b _ q (by simpa only [plc] using h)
    rw [List.length_append, List.length_singleton] at this
    simp only [Pg.hgt]; omega
  | .give f a, pl, q, h => by
    simp only [plc, List.mem_append] at h
    rcases h with (h | h) | h
    · split at h
      · rw [List.mem_singleton.mp h]; omega
      · cases h
    · have := plc_place f _ q h
      rw [List.length_append, List.length_singleton] at this
      simp only [Pg.hgt]; omega
    · have := plc_place a _ q h
      rw [List.length_append, List.length_singleton] at this
      simp only [Pg.hgt]; omega
  | .pair a b, pl, q, h => by
    simp only [plc, List.mem_append] at h
    rcases h with h | h
    · have := plc_place a _ q h
      rw [List.length_append, List.length_singleton] at this
      simp only [Pg.hgt]; omega
    · have := plc_place b _ q h
      rw [List.length_append, List.length_singleton] at this
      simp only [Pg.hgt]; omega
  | .first p, pl, q, h => by
    simp only [plc, List.mem_append] at h
    rcases h with h | h
    · split at h
      · rw [List.mem_singleton.mp h]; omega
      · cases h
    · have := plc_place p _ q h
      rw [List.length_append, List.length_singleton] at this
      simp only [Pg.hgt]; omega
  | .second p, pl, q, h => by
    simp only [plc, List.mem_append] at h
    rcases h with h | h
    · split at h
      · rw [List.mem_singleton.mp h]; omega
      · cases h
    · have := plc_place p _ q h
      rw [List.length_append, List.length_singleton] at this
      simp only [Pg.hgt]; omega
theorem tidy_hgt : ∀ (p : Pg) (c : List Str), (tidy p c).hgt = p.hgt
  | .nm x, c => by simp only [tidy]; cases ri c x <;> rfl
  | .thing, _ => rfl
  | .take x k b, c => by simp only [tidy, Pg.hgt, tidy_hgt b]
  | .give f a, c => by simp only [tidy, Pg.hgt, tidy_hgt f, tidy_hgt a]
  | .pair f a, c => by simp only [tidy, Pg.hgt, tidy_hgt f, tidy_hgt a]
  | .first f, c => by simp only [tidy, Pg.hgt, tidy_hgt f]
  | .second f, c => by simp only [tidy, Pg.hgt, tidy_hgt f]

structure Good (b : Db) : Prop where
  wf : Wf b 0
  ok : b.ok
  hg : b.hgt ≤ 100
  sz : b.psz ≤ 4194304
/-- the place's number at a turn -/
def pickN (pks : List Int) (t n : Nat) : Nat := if pks = [] then 0 else (pks.getD (t % pks.length) 0 % (n : Int)).toNat
theorem pickN_lt {pks : List Int} {t n : Nat} (h : 0 < n) : pickN pks t n < n := by
  unfold pickN
  split
  · exact h
  · have h1 := Int.emod_nonneg (pks.getD (t % pks.length) 0) (show (n : Int) ≠ 0 by omega)
    have h2 := Int.emod_lt_of_pos (pks.getD (t % pks.length) 0) (show (0 : Int) < n by omega)
    omega
def pickB (pks : List Int) (t : Nat) (b : Db) : List Int := (plcB b []).getD (pickN pks t (plcB b []).length) []
def runB (pks : List Int) : Nat → Nat → Db → List (List Int) → Option (Db × List (List Int))
  | 0, _, b, log => if plcB b [] = [] then some (b, log) else none
  | f + 1, t, b, log => if plcB b [] = [] then some (b, log) else if 1500 < (stepB b (pickB pks t b)).psz ∨ 100 < (stepB b (pickB pks t b)).hgt then none else runB pks f (t + 1) (stepB b (pickB pks t b)) (log ++ [pickB pks t b])
theorem pickB_mem {pks : List Int} {t : Nat} {b : Db} (h : plcB b [] ≠ []) : pickB pks t b ∈ plcB b [] := by
  unfold pickB
  have hl : 0 < (plcB b []).length := List.length_pos_iff.mpr h
  rw [List.getD_eq_getElem?_getD, List.getElem?_eq_getElem (pickN_lt hl)]
  exact List.getElem_mem _
theorem bd_hgtB : ∀ b : Db, b.bd ≤ b.hgt
  | .at _ => Nat.le_refl _
  | .nm _ => Nat.le_refl _
  | .thing => Nat.le_refl _
  | .take _ b => by have := bd_hgtB b; simp only [Db.bd, Db.hgt]; omega
  | .give f a => by have := bd_hgtB f; have := bd_hgtB a; simp only [Db.bd, Db.hgt]; omega
  | .pair f a => by have := bd_hgtB f; have := bd_hgtB a; simp only [Db.bd, Db.hgt]; omega
  | .first p => by have := bd_hgtB p; simp only [Db.bd, Db.hgt]; omega
  | .second p => by have := bd_hgtB p; simp only [Db.bd, Db.hgt]; omega
/-- what is known of a place of these -/
theorem place_facts {b : Db} (g : Good b) {pl : List Int} (h : pl ∈ plcB b []) : Vd (dress b 0) pl ∧ VdB b pl ∧ pl.length ≤ 100 ∧ tidy (stepP (dress b 0) pl) [] = dress (stepB b pl) 0 ∧ (stepP (dress b 0) pl).psz = (stepB b pl).psz ∧ (stepP (dress b 0) pl).hgt = (stepB b pl).hgt ∧ (stepB b pl).hgt ≤ 200 := by
  rw [← plc_dress b 0] at h
  obtain ⟨r, e, hv⟩ := plc_vd (dress b 0) [] pl h
  rw [List.nil_append] at e
  subst e
  have hb := bd_hgtB b
  have hg := g.hg
  have hvb := vdB_of (dress b 0) pl (xr 0) hv
  rw [bare_dress g.wf (by omega)] at hvb
  have e1 := bare_step b pl 0 g.wf (by omega) hv
  have e2 : tidy (stepP (dress b 0) pl) [] = dress (stepB b pl) 0 := by
    rw [tidy_eq, show ([] : List Str) = xr 0 from rfl, e1]; rfl
  have hlen : ∀ (p : Pg) (pl q : List Int), q ∈ plc p pl → q.length ≤ pl.length + p.hgt := plc_place
  have h1 := hlen _ _ _ h
  rw [dress_hgt, List.length_nil] at h1
  refine ⟨hv, hvb, by omega, e2, ?_, ?_, ?_⟩
  · rw [← tidy_psz _ [], e2, dress_psz]
  · rw [← tidy_hgt _ [], e2, dress_hgt]
  · have := stepB_hgt b pl hvb; omega
theorem good_step {b : Db} (g : Good b) {pl : List Int} (h : pl ∈ plcB b []) (hh : ¬ (1500 < (stepB b pl).psz ∨ 100 < (stepB b pl).hgt)) : Good (stepB b pl) := by
  obtain ⟨_, hv, _⟩ := place_facts g h
  exact ⟨wf_step b pl 0 g.wf hv, ok_stepB b pl hv g.ok, by omega, by omega⟩
theorem run_good {pks : List Int} : ∀ (f t : Nat) (b : Db) (log : List (List Int)) (b' : Db) (log' : List (List Int)), Good b → runB pks f t b log = some (b', log') → Good b' ∧ plcB b' [] = []
  | 0, t, b, log, b', log', g, h => by
    unfold runB at h
    split at h
    · rename_i e; cases h; exact ⟨g, e⟩
    · cases h
  | f + 1, t, b, log, b', log', g, h => by
    unfold runB at h
    split at h
    · rename_i e; cases h; exact ⟨g, e⟩
    · rename_i e
      split at h
      · cases h
      · rename_i hh
        exact run_good f (t + 1) _ _ b' log' (good_step g (pickB_mem e) hh) h
end Kf
/-! Kcf: whichever steps are done, the end is one. -/
namespace Kf
open PySem PySem.Spec L2
open PyProof.Rows hiding St
theorem mv_at_lo {i f n : Nat} (h : i < f) : moved (.at i) f n = .at i := by simp only [moved]; rw [if_neg (by omega)]; rfl
theorem mv_at_hi {i f n : Nat} (h : f ≤ i) : moved (.at i) f n = .at (i + n) := by simp only [moved]; rw [if_pos h]
theorem pt_at_lo {i t : Nat} {g : Db} (h : i < t) : put (.at i) t g = .at i := by simp only [put]; rw [if_neg (by omega), if_neg (by omega)]; rfl
theorem pt_at_eq {t : Nat} {g : Db} : put (.at t) t g = moved g 0 t := by simp [put]
theorem pt_at_hi {i t : Nat} {g : Db} (h : t < i) : put (.at i) t g = .at (i - 1) := by simp only [put]; rw [if_neg (by omega), if_pos h]
theorem mv_mv : ∀ (a : Db) {f f' n m : Nat}, f ≤ f' → f' ≤ f + n → moved (moved a f n) f' m = moved a f (n + m)
  | .at i, f, f', n, m, h1, h2 => by
    by_cases c : f ≤ i
    · rw [mv_at_hi c, mv_at_hi c, mv_at_hi (by omega)]; congr 1; omega
    · rw [mv_at_lo (by omega), mv_at_lo (by omega), mv_at_lo (by omega)]
  | .nm x, _, _, _, _, _, _ => rfl
  | .thing, _, _, _, _, _, _ => rfl
  | .take k b, f, f', n, m, h1, h2 => by simp only [moved]; rw [mv_mv b (by omega) (by omega)]
  | .give g a, f, f', n, m, h1, h2 => by simp only [moved]; rw [mv_mv g h1 h2, mv_mv a h1 h2]
  | .pair g a, f, f', n, m, h1, h2 => by simp only [moved]; rw [mv_mv g h1 h2, mv_mv a h1 h2]
  | .first p, f, f', n, m, h1, h2 => by simp only [moved]; rw [mv_mv p h1 h2]
  | .second p, f, f', n, m, h1, h2 => by simp only [moved]; rw [mv_mv p h1 h2]
theorem mv_comm : ∀ (a : Db) {e f j n : Nat}, e ≤ f → moved (moved a e j) (f + j) n = moved (moved a f n) e j
  | .at i, e, f, j, n, h => by
    by_cases c : f ≤ i
    · rw [mv_at_hi (show e ≤ i by omega), mv_at_hi c, mv_at_hi (by omega), mv_at_hi (by omega)]; congr 1; omega
    · rw [mv_at_lo (show i < f by omega)]
      by_cases d : e ≤ i
      · rw [mv_at_hi d, mv_at_lo (by omega)]
      · rw [mv_at_lo (by omega), mv_at_lo (by omega)]
  | .nm x, _, _, _, _, _ => rfl
  | .thing, _, _, _, _, _ => rfl
  | .take k b, e, f, j, n, h => by
    simp only [moved]
    have := mv_comm b (e := e + 1) (f := f + 1) (j := j) (n := n) (by omega)
    rw [show f + j + 1 = f + 1 + j by omega, this]
  | .give g a, e, f, j, n, h => by simp only [moved]; rw [mv_comm g h, mv_comm a h]
  | .pair g a, e, f, j, n, h => by simp only [moved]; rw [mv_comm g h, mv_comm a h]
  | .first p, e, f, j, n, h => by simp only [moved]; rw [mv_comm p h]
  | .second p, e, f, j, n, h => by simp only [moved]; rw [mv_comm p h]
theorem mv_put : ∀ (b : Db) {a : Db} {j f n : Nat}, moved (put b j a) (f + j) n = put (moved b (f + 1 + j) n) j (moved a f n)
  | .at i, a, j, f, n => by
    by_cases c : i = j
    · subst c
      rw [pt_at_eq, mv_at_lo (show i < f + 1 + i by omega), pt_at_eq, mv_comm a (Nat.zero_le _)]
    · by_cases d : i < j
      · rw [pt_at_lo d, mv_at_lo (by omega), mv_at_lo (by omega), pt_at_lo d]
      · rw [pt_at_hi (by omega)]
        by_cases e : f + 1 + j ≤ i
        · rw [mv_at_hi (by omega), mv_at_hi e, pt_at_hi (by omega)]; congr 1; omega
        · rw [mv_at_lo (by omega), mv_at_lo (by omega), pt_at_hi (by omega)]
  | .nm x, _, _, _, _ => rfl
  | .thing, _, _, _, _ => rfl
  | .take k b, a, j, f, n => by
    simp only [moved, put]
    have := mv_put b (a := a) (j := j + 1) (f := f) (n := n)
    rw [show f + j + 1 = f + (j + 1) by omega, this, show f + 1 + (j + 1) = f + 1 + j + 1 by omega]
  | .give g c, a, j, f, n => by simp only [moved, put]; rw [mv_put g, mv_put c]
  | .pair g c, a, j, f, n => by simp only [moved, put]; rw [mv_put g, mv_put c]
  | .first p, a, j, f, n => by simp only [moved, put]; rw [mv_put p]
  | .second p, a, j, f, n => by simp only [moved, put]; rw [mv_put p]
theorem pt_mv : ∀ (a : Db) {g : Db} {e n t : Nat}, e ≤ t → t ≤ e + n → put (moved a e (n + 1)) t g = moved a e n
  | .at i, g, e, n, t, h1, h2 => by
    by_cases c : e ≤ i
    · rw [mv_at_hi c, mv_at_hi c, pt_at_hi (by omega)]; congr 1
    · rw [mv_at_lo (by omega), mv_at_lo (by omega), pt_at_lo (by omega)]
  | .nm x, _, _, _, _, _, _ => rfl
  | .thing, _, _, _, _, _, _ => rfl
  | .take k b, g, e, n, t, h1, h2 => by simp only [moved, put]; rw [pt_mv b (by omega) (by omega)]
  | .give f a, g, e, n, t, h1, h2 => by simp only [moved, put]; rw [pt_mv f h1 h2, pt_mv a h1 h2]
  | .pair f a, g, e, n, t, h1, h2 => by simp only [moved, put]; rw [pt_mv f h1 h2, pt_mv a h1 h2]
  | .first p, g, e, n, t, h1, h2 => by simp only [moved, put]; rw [pt_mv p h1 h2]
  | .second p, g, e, n, t, h1, h2 => by simp only [moved, put]; rw [pt_mv p h1 h2]
theorem pt_mv2 : ∀ (a : Db) {g : Db} {e j t : Nat}, e ≤ t → put (moved a e j) (t + j) g = moved (put a t g) e j
  | .at i, g, e, j, t, h => by
    by_cases c : i = t
    · subst c
      rw [mv_at_hi h, pt_at_eq, pt_at_eq, mv_mv g (Nat.zero_le _) (by omega)]
    · by_cases d : i < t
      · rw [pt_at_lo d]
        by_cases e' : e ≤ i
        · rw [mv_at_hi e', pt_at_lo (by omega)]
        · rw [mv_at_lo (by omega), pt_at_lo (by omega)]
      · rw [pt_at_hi (by omega), mv_at_hi (by omega), mv_at_hi (by omega), pt_at_hi (by omega)]; congr 1; omega
  | .nm x, _, _, _, _, _ => rfl
  | .thing, _, _, _, _, _ => rfl
  | .take k b, g, e, j, t, h => by
    simp only [moved, put]
    have := pt_mv2 b (g := g) (e := e + 1) (j := j) (t := t + 1) (by omega)
    rw [show t + j + 1 = t + 1 + j by omega, this]
  | .give f a, g, e, j, t, h => by simp only [moved, put]; rw [pt_mv2 f h, pt_mv2 a h]
  | .pair f a, g, e, j, t, h => by simp only [moved, put]; rw [pt_mv2 f h, pt_mv2 a h]
  | .first p, g, e, j, t, h => by simp only [moved, put]; rw [pt_mv2 p h]
  | .second p, g, e, j, t, h => by simp only [moved, put]; rw [pt_mv2 p h]
theorem pt_pt : ∀ (b : Db) {a g : Db} {j t : Nat}, put (put b j a) (t + j) g = put (put b (t + j + 1) g) j (put a t g)
  | .at i, a, g, j, t => by
    by_cases c : i = j
    · subst c
      rw [pt_at_eq, pt_at_lo (show i < t + i + 1 by omega), pt_at_eq, pt_mv2 a (Nat.zero_le _)]
    · by_cases d : i < j
      · rw [pt_at_lo d, pt_at_lo (by omega), pt_at_lo (by omega), pt_at_lo d]
      · rw [pt_at_hi (show j < i by omega)]
        by_cases e : i = t + j + 1
        · subst e
          rw [show t + j + 1 - 1 = t + j by omega, pt_at_eq, pt_at_eq, pt_mv g (Nat.zero_le _) (by omega)]
        · by_cases e2 : i < t + j + 1
          · rw [pt_at_lo (by omega), pt_at_lo (by omega), pt_at_hi (by omega)]
          · rw [pt_at_hi (by omega), pt_at_hi (by omega), pt_at_hi (by omega)]
  | .nm x, _, _, _, _ => rfl
  | .thing, _, _, _, _ => rfl
  | .take k b, a, g, j, t => by
    simp only [put]
    have := pt_pt b (a := a) (g := g) (j := j + 1) (t := t)
    rw [show t + j + 1 = t + (j + 1) by omega, this]
  | .give f c, a, g, j, t => by simp only [put]; rw [pt_pt f, pt_pt c]
  | .pair f c, a, g, j, t => by simp only [put]; rw [pt_pt f, pt_pt c]
  | .first p, a, g, j, t => by simp only [put]; rw [pt_pt p]
  | .second p, a, g, j, t => by simp only [put]; rw [pt_pt p]
/-- some of the steps that can be done, all at once -/
inductive Par : Db → Db → Prop
  | at (i : Nat) : Par (.at i) (.at i)
  | nm (x : Str) : Par (.nm x) (.nm x)
  | thing : Par .thing .thing
  | take (k : Kd) {b b' : Db} : Par b b' → Par (.take k b) (.take k b')
  | give {f f' a a' : Db} : Par f f' → Par a a' → Par (.give f a) (.give f' a')
  | pair {f f' a a' : Db} : Par f f' → Par a a' → Par (.pair f a) (.pair f' a')
  | first {p p' : Db} : Par p p' → Par (.first p) (.first p')
  | second {p p' : Db} : Par p p' → Par (.second p) (.second p')
  | beta (k : Kd) {b b' a a' : Db} : Par b b' → Par a a' → Par (.give (.take k b) a) (put b' 0 a')
  | fst {a a' : Db} (c : Db) : Par a a' → Par (.first (.pair a c)) a'
  | snd {a a' : Db} (c : Db) : Par a a' → Par (.second (.pair c a)) a'
theorem Par.refl : ∀ b : Db, Par b b
  | .at i => .at i
  | .nm x => .nm x
  | .thing => .thing
  | .take k b => .take k (Par.refl b)
  | .give f a => .give (Par.refl f) (Par.refl a)
  | .pair f a => .pair (Par.refl f) (Par.refl a)
  | .first p => .first (Par.refl p)
  | .second p => .second (Par.refl p)
theorem Par.mv {b b' : Db} (h : Par b b') : ∀ (f n : Nat), Par (moved b f n) (moved b' f n) := by
  induction h with
  | «at» i => intro f n; exact Par.refl _
  | nm x => intro f n; exact Par.refl _
  | thing => intro f n; exact Par.refl _
  | take k _ ih => intro f n; exact .take k (ih (f + 1) n)
  | give _ _ ih1 ih2 => intro f n; exact .give (ih1 f n) (ih2 f n)
  | pair _ _ ih1 ih2 => intro f n; exact .pair (ih1 f n) (ih2 f n)
  | first _ ih => intro f n; exact .first (ih f n)
  | second _ ih => intro f n; exact .second (ih f n)
  | @beta k b b' a a' _ _ ih1 ih2 =>
    intro f n
    have e := mv_put b' (a := a') (j := 0) (f := f) (n := n)
    rw [Nat.add_zero, Nat.add_zero] at e
    rw [e]
    exact .beta k (ih1 (f + 1) n) (ih2 f n)
  | fst c _ ih => intro f n; exact .fst _ (ih f n)
  | snd c _ ih => intro f n; exact .snd _ (ih f n)
theorem Par.pt {b b' : Db} (h : Par b b') : ∀ {a a' : Db} (t : Nat), Par a a' → Par (put b t a) (put b' t a') := by
  induction h with
  | «at» i =>
    intro a a' t ha
    by_cases c : i = t
    · subst c; rw [pt_at_eq, pt_at_eq]; exact ha.mv 0 i
    · by_cases d : i < t
      · rw [pt_at_lo d, pt_at_lo d]; exact .at i
      · rw [pt_at_hi (by omega), pt_at_hi (by omega)]; exact .at _
  | nm x => intro a a' t ha; exact .nm x
  | thing => intro a a' t ha; exact .thing
  | take k _ ih => intro a a' t ha; exact .take k (ih (t + 1) ha)
  | give _ _ ih1 ih2 => intro a a' t ha; exact .give (ih1 t ha) (ih2 t ha)
  | pair _ _ ih1 ih2 => intro a a' t ha; exact .pair (ih1 t ha) (ih2 t ha)
  | first _ ih => intro a a' t ha; exact .first (ih t ha)
  | second _ ih => intro a a' t ha; exact .second (ih t ha)
  | @beta k b b' c c' _ _ ih1 ih2 =>
    intro a a' t ha
    have e := pt_pt b' (a := c') (g := a') (j := 0) (t := t)
    rw [Nat.add_zero] at e
    rw [e]
    exact .beta k (ih1 (t + 1) ha) (ih2 t ha)
  | fst c _ ih => intro a a' t ha; exact .fst _ (ih t ha)
  | snd c _ ih => intro a a' t ha; exact .snd _ (ih t ha)
/-- one after another -/
inductive Pars : Db → Db → Prop
  | nil (b : Db) : Pars b b
  | cons {a b c : Db} : Par a b → Pars b c → Pars a c
theorem Pars.trans {a b c : Db} (h : Pars a b) (h' : Pars b c) : Pars a c := by
  induction h with
  | nil _ => exact h'
  | cons h1 _ ih => exact .cons h1 (ih h')
end Kf
/-! Ksz: how great a program becomes by one step; places of a tidied program. -/
namespace Kf
open PySem PySem.Spec L2
open PyProof.Rows hiding St
end Kf
namespace Kf
open PySem PySem.Spec L2
open PyProof.Rows hiding St
local macro_rules | `(tactic| walk_at "kf") => `(tactic| simp (config := { failIfUnchanged := false }) only [startD, ap_fiEnumT, asT1_t, ap_fKGet, asStr_s, ap_fKIn, ap_fKIx, ap_gAsgL, rUnl_l, ap_fiRng3, asR3_i, rSplitO_s, ap_fOrL, rOrL_l, ap_fLcK, ap_gForK, ap_fMaxD, rMaxD_l, rMaxL_l, ap_fCallXD, ap_gForE, asLE_l, ap_fFrz, ap_fDicO, ap_fDGet, ap_fDGet1, ap_fDGet2, ap_gDPut, ap_fIsiT, ap_gForR, rRep_l, isT_i, isT_s, isT_b, isT_n, isT_t, isT_l, ap_gSeq, ap_gIf, ap_gRet, ap_gNext, ap_gSet, ap_gAsg, ap_gDrop, ap_gRetF, ap_gRetN, ap_gFor, ap_gSetIx, ap_gBreak, ap_fRev, ap_fiRevR, asIR_i, rRev_l, ap_fCallX, ap_gRaise, ap_gTry, ap_gTryAs, ap_gNever, ap_fEdic, ap_fTest, ap_fOp, ap_fVar, envGet_s, patGet_s, ap_fC, ap_fCB, ap_fCons, ap_fNil, ap_fCall, ap_fAnd, ap_fOr, ap_fNot, ap_fAndV, ap_fOrV, ap_fNotV, ap_fIf, ap_fTup, ap_fLst, ap_fLstO, ap_fChain, ap_fUn, ap_fBM, ap_fBM0, ap_fPool, rPool_i, ap_fSl, ap_fPart, ap_fNoPart, asI_i, rSl_l, ap_fiRng1, ap_fiRng2, ap_fiList, ap_fiTup, ap_fiStr, ap_fiEnum, ap_fiZip, ap_fiRev, asL_l, asT_t, asSg_s, asR1_i, asR2_i, asL1_l, asL2_l, ap_fLc, ap_fLcO, ap_fYes, wipeD, lcD, isi_i_int, isi_i_bool, isi_i_str, isi_i_tuple, isi_i_list, isi_i_dict, isi_b_int, isi_b_bool, isi_b_str, isi_b_tuple, isi_b_list, isi_b_dict, isi_s_int, isi_s_bool, isi_s_str, isi_s_tuple, isi_s_list, isi_s_dict, isi_t_int, isi_t_bool, isi_t_str, isi_t_tuple, isi_t_list, isi_t_dict, isi_l_int, isi_l_bool, isi_l_str, isi_l_tuple, isi_l_list, isi_l_dict, isi_n_int, isi_n_bool, isi_n_str, isi_n_tuple, isi_n_list, isi_n_dict, isi_d_int, isi_d_bool, isi_d_str, isi_d_tuple, isi_d_list, isi_d_dict,
  deref_tup, deref_lst, deref_int, deref_str, deref_bl, deref_non, deref_scr, rLt_i, rLt_s, rLe_i, rLe_s, rInts_i, rInts0_i, rAdd_i, rAdd_s, rAdd_l, rAdd_t, rCatO_l, rNeg_i, rLen_t, rLen_l, rLen_c, rLen_s, rMax_i, rMin_i, rInt_i, rInt_b, rDivmod_i, ap_gAug, rStr_i, rList_l, rList_t, rListO_l, rListO_t, rTup_l, rTup_t,
  rIx_t0, rIx_t1, rIx_t2, rIx_t3, rIx_l0, rIx_l1, rIx_l2, rIsN_x, isNon_t, isNon_n, isNon_i, isNon_s, isNon_l, rEq_i, rEq_b, rEq_i2, rEq_b2, rJoin_m, rSplit_s, tyOk_l, tyOk_s, patD_nm, patD_tp, patDs_nil, patDs_cons, Option.bind_some, notX, notX',
  List.map_cons, List.map_nil, List.length_cons, List.length_nil, List.cons_append, List.nil_append, List.append_nil, List.replicate, List.getElem?_cons_zero, List.getElem?_cons_succ, List.set_cons_zero, List.set_cons_succ, updO_same, updO_updO,
  Nat.reduceSub, Nat.reduceAdd, Nat.reduceLeDiff, Nat.zero_add, Int.cast_ofNat_Int, Int.natCast_zero, Int.natCast_one, Int.reduceLT, Int.reduceLE, Int.reduceEq, Int.reduceAdd, Int.reduceSub, Int.reduceNeg, decide_true, decide_false, if_true, if_false, Bool.false_eq_true, eq_self, reduceIte, Bool.true_eq_false, decide_eq_true_eq, Bool.not_true, Bool.not_false, Bool.not_eq_true', decide_eq_false_iff_not, exists_eq_left', exists_eq_left, D.bl.injEq, true_and, and_true, not_true_eq_false, not_false_eq_true])
local macro_rules | `(tactic| walk_at "len") => `(tactic| (intro ds O R RE h; first | (obtain ⟨e, _⟩ := h; subst e; rfl) | (obtain ⟨_, e, _⟩ := h; subst e; rfl) | (obtain ⟨_, _, e, _⟩ := h; subst e; rfl) | (obtain ⟨_, _, _, e, _⟩ := h; subst e; rfl) | (obtain ⟨_, _, _, _, e, _⟩ := h; subst e; rfl) | (obtain ⟨_, _, _, _, _, e, _⟩ := h; subst e; rfl) | (obtain ⟨_, _, _, _, _, _, e, _⟩ := h; subst e; rfl) | (obtain ⟨_, _, _, _, _, _, _, e, _⟩ := h; subst e; rfl) | (obtain ⟨_, _, _, _, _, _, _, _, e, _⟩ := h; subst e; rfl) | (obtain ⟨_, _, _, _, _, _, _, _, _, e, _⟩ := h; subst e; rfl)))
local macro_rules | `(tactic| walk_at "kf1") => `(tactic| simp (config := { failIfUnchanged := false }) only [startD, ap_fiEnumT, asT1_t, ap_fKGet, asStr_s, ap_fKIn, ap_fKIx, ap_gAsgL, rUnl_l, ap_fiRng3, asR3_i, rSplitO_s, ap_fOrL, rOrL_l, ap_fLcK, ap_gForK, ap_fMaxD, rMaxD_l, rMaxL_l, ap_fCallXD, ap_gForE, asLE_l, ap_fFrz, ap_fDicO, ap_fDGet, ap_fDGet1, ap_fDGet2, ap_gDPut, ap_fIsiT, ap_gForR, rRep_l, isT_i, isT_s, isT_b, isT_n, isT_t, isT_l, ap_gIf, ap_gRet, ap_gNext, ap_gSet, ap_gAsg, ap_gDrop, ap_gRetF, ap_gRetN, ap_gFor, ap_gSetIx, ap_gBreak, ap_fRev, ap_fiRevR, asIR_i, rRev_l, ap_fCallX, ap_gRaise, ap_gTry, ap_gTryAs, ap_gNever, ap_fEdic, ap_fTest, ap_fOp, ap_fVar, envGet_s, patGet_s, ap_fC, ap_fCB, ap_fCons, ap_fNil, ap_fCall, ap_fAnd, ap_fOr, ap_fNot, ap_fAndV, ap_fOrV, ap_fNotV, ap_fIf, ap_fTup, ap_fLst, ap_fLstO, ap_fChain, ap_fUn, ap_fBM, ap_fBM0, ap_fPool, rPool_i, ap_fSl, ap_fPart, ap_fNoPart, asI_i, rSl_l, ap_fiRng1, ap_fiRng2, ap_fiList, ap_fiTup, ap_fiStr, ap_fiEnum, ap_fiZip, ap_fiRev, asL_l, asT_t, asSg_s, asR1_i, asR2_i, asL1_l, asL2_l, ap_fLc, ap_fLcO, ap_fYes, wipeD, lcD, isi_i_int, isi_i_bool, isi_i_str, isi_i_tuple, isi_i_list, isi_i_dict, isi_b_int, isi_b_bool, isi_b_str, isi_b_tuple, isi_b_list, isi_b_dict, isi_s_int, isi_s_bool, isi_s_str, isi_s_tuple, isi_s_list, isi_s_dict, isi_t_int, isi_t_bool, isi_t_str, isi_t_tuple, isi_t_list, isi_t_dict, isi_l_int, isi_l_bool, isi_l_str, isi_l_tuple, isi_l_list, isi_l_dict, isi_n_int, isi_n_bool, isi_n_str, isi_n_tuple, isi_n_list, isi_n_dict, isi_d_int, isi_d_bool, isi_d_str, isi_d_tuple, isi_d_list, isi_d_dict,
  deref_tup, deref_lst, deref_int, deref_str, deref_bl, deref_non, deref_scr, rLt_i, rLt_s, rLe_i, rLe_s, rInts_i, rInts0_i, rAdd_i, rAdd_s, rAdd_l, rAdd_t, rCatO_l, rNeg_i, rLen_t, rLen_l, rLen_c, rLen_s, rMax_i, rMin_i, rInt_i, rInt_b, rDivmod_i, ap_gAug, rStr_i, rList_l, rList_t, rListO_l, rListO_t, rTup_l, rTup_t,
  rIx_t0, rIx_t1, rIx_t2, rIx_t3, rIx_l0, rIx_l1, rIx_l2, rIsN_x, isNon_t, isNon_n, isNon_i, isNon_s, isNon_l, rEq_i, rEq_b, rEq_i2, rEq_b2, rJoin_m, rSplit_s, tyOk_l, tyOk_s, patD_nm, patD_tp, patDs_nil, patDs_cons, Option.bind_some, notX, notX',
  List.map_cons, List.map_nil, List.length_cons, List.length_nil, List.cons_append, List.nil_append, List.append_nil, List.replicate, List.getElem?_cons_zero, List.getElem?_cons_succ, List.set_cons_zero, List.set_cons_succ, updO_same, updO_updO,
  Nat.reduceSub, Nat.reduceAdd, Nat.reduceLeDiff, Nat.zero_add, Int.cast_ofNat_Int, Int.natCast_zero, Int.natCast_one, Int.reduceLT, Int.reduceLE, Int.reduceEq, Int.reduceAdd, Int.reduceSub, Int.reduceNeg, decide_true, decide_false, if_true, if_false, Bool.false_eq_true, eq_self, reduceIte, Bool.true_eq_false, decide_eq_true_eq, Bool.not_true, Bool.not_false, Bool.not_eq_true', decide_eq_false_iff_not, exists_eq_left', exists_eq_left, D.bl.injEq, true_and, and_true, not_true_eq_false, not_false_eq_true])
section
variable {P : Program} {w : World} {K : PySem.W.Frag} {mg : Str → Option Value} {base : Heap}
local macro_rules | `(tactic| walk_at "tg") => `(tactic| simp (config := { failIfUnchanged := false }) only [te_name_take, te_name_give, te_name_pair, te_name_first, te_name_second, te_name_to, te_name_both, te_name_one, te_name_mark, te_name_name, te_name_thing, te_name_at, te_thing_take, te_thing_give, te_thing_pair, te_thing_first, te_thing_second, te_thing_to, te_thing_both, te_thing_one, te_thing_mark, te_thing_name, te_thing_thing, te_thing_at, te_take_take, te_take_give, te_take_pair, te_take_first, te_take_second, te_take_to, te_take_both, te_take_one, te_take_mark, te_take_name, te_take_thing, te_take_at, te_give_take, te_give_give, te_give_pair, te_give_first, te_give_second, te_give_to, te_give_both, te_give_one, te_give_mark, te_give_name, te_give_thing, te_give_at, te_pair_take, te_pair_give, te_pair_pair, te_pair_first, te_pair_second, te_pair_to, te_pair_both, te_pair_one, te_pair_mark, te_pair_name, te_pair_thing, te_pair_at, te_first_take, te_first_give, te_first_pair, te_first_first, te_first_second, te_first_to, te_first_both, te_first_one, te_first_mark, te_first_name, te_first_thing, te_first_at, te_second_take, te_second_give, te_second_pair, te_second_first, te_second_second, te_second_to, te_second_both, te_second_one, te_second_mark, te_second_name, te_second_thing, te_second_at, te_mark_take, te_mark_give, te_mark_pair, te_mark_first, te_mark_second, te_mark_to, te_mark_both, te_mark_one, te_mark_mark, te_mark_name, te_mark_thing, te_mark_at, te_one_take, te_one_give, te_one_pair, te_one_first, te_one_second, te_one_to, te_one_both, te_one_one, te_one_mark, te_one_name, te_one_thing, te_one_at, te_to_take, te_to_give, te_to_pair, te_to_first, te_to_second, te_to_to, te_to_both, te_to_one, te_to_mark, te_to_name, te_to_thing, te_to_at, te_both_take, te_both_give, te_both_pair, te_both_first, te_both_second, te_both_to, te_both_both, te_both_one, te_both_mark, te_both_name, te_both_thing, te_both_at, te_at_take, te_at_give, te_at_pair, te_at_first, te_at_second, te_at_to, te_at_both, te_at_one, te_at_mark, te_at_name, te_at_thing, te_at_at, ti4_name, ti4_thing, ti4_take, ti4_give, ti4_pair, ti4_first, ti4_second, ti2_name, ti2_thing, ti2_take, ti2_give, ti2_pair, ti2_first, ti2_second, szT_0, szT_1, szT_2, szT_3, szT_4, szT_5, szT_6, szT_7, szT_8, szT_9, szT_10, szT_11, szT_12, Bool.not_true, Bool.not_false, true_and])
def spInnerO : DSp := fun ds O R _ => ∃ p : Pg, ds = [dP p] ∧ ∀ a, O a = none → R (.ref a) (updO O a (.lst (p.ins.map dP)))
theorem cut1_2 (a b : D) : cut [a, b] (some 1) none = [b] := by simp [cut, HT.sIx]
theorem cut1_3 (a b c : D) : cut [a, b, c] (some 1) none = [b, c] := by simp [cut, HT.sIx]
theorem sl1_2 {a b : D} {O : Ow} {Q : VD} : rSlD (.tup [a, b]) (some 1) none O Q = Q (.tup [b]) O := by
  rw [rSl_t (by simp [HT.sIx]), cut1_2]
theorem sl1_3 {a b c : D} {O : Ow} {Q : VD} : rSlD (.tup [a, b, c]) (some 1) none O Q = Q (.tup [b, c]) O := by
  rw [rSl_t (by simp [HT.sIx]), cut1_3]
theorem ok_innerO (T : Tx K mg) : FO_inner P w base T 1 spInnerO := by
  refine fnd_inner T (by walk_at "len") ?_
  rintro ds O R RE ⟨p, rfl, hR⟩
  unfold g_inner
  cases p <;> simp only [dP, Pg.ins] at hR ⊢ <;> walk_at "kf" <;> walk_at "tg" <;> walk_at "kf" <;> walk_at "tg" <;> walk_at "kf" <;> (try simp only [sl1_2, sl1_3]) <;> walk_at "kf" <;> walk_at "tg" <;> exact hR
def spPartAt : DSp := fun ds O R _ => ∃ (p q : Pg) (x : D) (pl : List Int), ds = [dP p, x] ∧ deref O x = dI pl ∧ partAt p pl = some q ∧ R (dP q) O
/-- a walk along a list that stays, by places -/
theorem forE_ix {x : D} {all : List D} {p : Pat} {gb : GS} {R : DEnds} {α : Type} (f : α → D) (I : List α → DEnv → Ow → Prop) (hI : ∀ xs ρ O, I xs ρ O → deref O x = .lst all) (hd : ∀ ρ O, I [] ρ O → R.nx ρ O)
    (hs : ∀ y rest ρ O, I (y :: rest) ρ O → ∀ N : DEnv → Ow → Prop, (∀ ρ O, I rest ρ O → N ρ O) → patGet (patD p (f y) ρ) fun ρ1 => gb { R with nx := N, ct := N, bk := R.nx } ρ1 O) : ∀ (xs : List α) (ρ : DEnv) (O : Ow), I xs ρ O → forE x all p gb R (xs.map f) ρ O
  | [], ρ, O, h => ⟨hI _ _ _ h, hd ρ O h⟩
  | y :: xs, ρ, O, h => ⟨hI _ _ _ h, hs y xs ρ O h _ fun ρ' O' h' => forE_ix f I hI hd hs xs ρ' O' h'⟩
theorem asLE_d {x : D} {ds : List D} {O : Ow} {Q : List D → Prop} (h : deref O x = .lst ds) : asLE x O Q = Q ds := by simp only [asLE, h]
theorem ok_part_at (T : Tx K mg) : FO_part_at P w base T 2 spPartAt := by
  refine fnd_part_at T (ok_innerO T) (by walk_at "len") ?_
  rintro ds O R RE ⟨p, q, x, pl, rfl, hx, hp, hR⟩
  unfold g_part_at
  refine gSeq_step ?_
  walk_at "kf1"
  rw [asLE_d hx]
  refine forE_ix D.int (fun rest ρ O' => O' = O ∧ ∃ p' x2 x3, ρ = [some (dP p'), some x, x2, x3] ∧ partAt p' rest = some q) ?_ ?_ ?_ pl _ _ ⟨rfl, _, _, _, rfl, hp⟩
  · rintro xs ρ O' ⟨rfl, _⟩; exact hx
  · rintro ρ O' ⟨rfl, p', x2, x3, rfl, h⟩
    simp only [partAt, Option.some.injEq] at h
    subst h
    try dsimp only
    walk_at "kf1"
    exact hR
  · rintro i rest ρ O' ⟨rfl, p', x2, x3, rfl, h⟩ N hN
    obtain ⟨c, h0, h1, h2, h3, h4, h5, h6⟩ := partAt_cons h
    walk_at "kf1"
    refine gSeq_step ?_
    walk_at "kf1"
    refine ⟨p', rfl, fun a ha => ?_⟩
    dsimp only
    rw [rFrz_u ha]
    refine gSeq_step ?_
    walk_at "kf1"
    rw [if_pos h0]
    walk_at "kf1"
    rw [List.length_map, if_neg (fun q => q h1)]
    rw [rIx_l (by rw [atI_map, h2]; rfl)]
    exact hN _ _ ⟨rfl, _, _, _, rfl, h5⟩
def spWithInner : DSp := fun ds O R _ => ∃ (p : Pg) (x : D) (qs : List Pg), ds = [dP p, x] ∧ deref O x = .lst (qs.map dP) ∧ qs.length = p.ins.length ∧ (∀ q ∈ qs, q.sok = true) ∧ R (dP (setIns p qs)) O
theorem rIx_d {x : D} {xs : List D} {i : Int} {d : D} {O : Ow} {Q : VD} (h : deref O x = .lst xs) (e : atI xs i = some d) : rIxD x (.int i) O Q = Q d O := by
  cases x with
  | ref a => simp only [deref] at h; split at h <;> first | (cases h; rename_i e2; rw [rIx_r e2 e]) | cases h
  | lst ys => cases h; exact rIx_l e
  | _ => cases h
theorem rTup_d {x : D} {xs : List D} {O : Ow} {Q : VD} (h : deref O x = .lst xs) : rTup1 [x] O Q = Q (.tup xs) O := by
  simp only [rTup1, h]
theorem isPys_dP {qs : List Pg} (h : ∀ q ∈ qs, q.sok = true) : isPys (qs.map dP) = true := by
  rw [isPys_all, List.all_eq_true]
  intro d hd
  obtain ⟨q, hq, rfl⟩ := List.mem_map.mp hd
  rw [isPy_dP]; exact h q hq
theorem ok_with_inner (T : Tx K mg) : FO_with_inner P w base T 1 spWithInner := by
  refine fnd_with_inner T (by walk_at "len") ?_
  rintro ds O R RE ⟨p, x, qs, rfl, hx, hl, hs, hR⟩
  unfold g_with_inner
  have eqn : ∀ Q : VD, rEqD false x (.lst []) O Q = Q (.bl qs.isEmpty) O := fun Q => by
    rw [rEq_nilA hx (isPys_dP hs), Bool.false_xor]
    cases qs <;> rfl
  cases p with
  | nm y =>
    obtain rfl : qs = [] := List.length_eq_zero_iff.mp hl
    simp only [dP]
    walk_at "kf"
    walk_at "tg"
    walk_at "kf"
    walk_at "tg"
    rw [eqn]
    walk_at "kf"
    exact hR
  | thing =>
    obtain rfl : qs = [] := List.length_eq_zero_iff.mp hl
    simp only [dP]
    walk_at "kf"
    walk_at "tg"
    walk_at "kf"
    walk_at "tg"
    rw [eqn]
    walk_at "kf"
    exact hR
  | take y k b =>
    obtain ⟨c, rfl⟩ : ∃ c, qs = [c] := List.length_eq_one_iff.mp hl
    simp only [dP]
    walk_at "kf"
    walk_at "tg"
    walk_at "kf"
    rw [rIx_d hx (ixC0 _ _)]
    walk_at "tg"
    exact hR
  | first b =>
    obtain ⟨c, rfl⟩ : ∃ c, qs = [c] := List.length_eq_one_iff.mp hl
    simp only [dP]
    walk_at "kf"
    walk_at "tg"
    walk_at "kf"
    walk_at "tg"
    rw [eqn]
    walk_at "kf"
    walk_at "tg"
    rw [rTup_d hx]
    walk_at "kf"
    exact ⟨by simp, sz_small (by decide), hR⟩
  | second b =>
    obtain ⟨c, rfl⟩ : ∃ c, qs = [c] := List.length_eq_one_iff.mp hl
    simp only [dP]
    walk_at "kf"
    walk_at "tg"
    walk_at "kf"
    walk_at "tg"
    rw [eqn]
    walk_at "kf"
    walk_at "tg"
    rw [rTup_d hx]
    walk_at "kf"
    exact ⟨by simp, sz_small (by decide), hR⟩
  | give f b =>
    obtain ⟨c, d, rfl⟩ : ∃ c d, qs = [c, d] := len2 hl
    simp only [dP]
    walk_at "kf"
    walk_at "tg"
    walk_at "kf"
    walk_at "tg"
    rw [eqn]
    walk_at "kf"
    walk_at "tg"
    rw [rTup_d hx]
    walk_at "kf"
    exact ⟨by simp, sz_small (by decide), hR⟩
  | pair f b =>
    obtain ⟨c, d, rfl⟩ : ∃ c d, qs = [c, d] := len2 hl
    simp only [dP]
    walk_at "kf"
    walk_at "tg"
    walk_at "kf"
    walk_at "tg"
    rw [eqn]
    walk_at "kf"
    walk_at "tg"
    rw [rTup_d hx]
    walk_at "kf"
    exact ⟨by simp, sz_small (by decide), hR⟩
def spWithPart (n : Nat) : DSp := fun ds O R _ => ∃ (p q w : Pg) (x : D) (pl : List Int), ds = [dP p, x, dP w] ∧ deref O x = dI pl ∧ partAt p pl = some q ∧ pl.length < n ∧ p.sok = true ∧ w.sok = true ∧ R (dP (withPart p pl w)) O
theorem cut1_c (i : Int) (pl : List Int) : cut ((i :: pl).map D.int) (some 1) none = pl.map D.int := by
  simp [cut, HT.sIx]
  exact List.take_of_length_le (by simp)
theorem rSl_d {x : D} {xs : List D} {lo hi : Option Int} {O : Ow} {Q : VD} (h : deref O x = .lst xs) : rSlD x lo hi O Q = Q (.lst (cut xs lo hi)) O := by simp only [rSlD, h]
theorem ok_with_part (T : Tx K mg) : ∀ n, FO_with_part P w base T (n + 1) (spWithPart n)
  | 0 => none_left fun ds O R RE ⟨p, q, w, x, pl, _, _, _, h, _⟩ => by omega
  | n + 1 => by
    refine fndG_with_part T (fnUp (ok_innerO T) (by omega)) (ok_with_part T n) (fnUp (ok_with_inner T) (by omega)) (by walk_at "len") ?_
    rintro ds O R RE ⟨p, q, w, x, pl, rfl, hx, hp, hn, hs, hw, hR⟩
    unfold g_with_part
    cases pl with
    | nil =>
      refine gSeq_step ?_
      walk_at "kf1"
      walk_at "tg"
      rw [rEq_nilA hx (isPys_ints _)]
      walk_at "kf1"
      simp only [withPart] at hR
      exact .at hR
    | cons i r =>
      obtain ⟨c, h0, h1, h2, h3, h4, h5, h6⟩ := partAt_cons hp
      have hc := ins_ok h4 hs
      refine gSeq_step ?_
      walk_at "kf1"
      walk_at "tg"
      rw [rEq_nilA hx (isPys_ints _)]
      simp only [List.map_cons, List.isEmpty_cons, Bool.false_xor]
      walk_at "kf1"
      refine gSeq_step ?_
      walk_at "kf1"
      refine ⟨p, rfl, fun a ha => ?_⟩
      try dsimp only
      have hxa : ∀ cl, deref (updO O a cl) x = dI (i :: r) := fun cl => by
        cases x with
        | ref b =>
          have hne : b ≠ a := fun q => by subst q; simp only [deref, ha] at hx; cases hx
          simp only [deref, updO_ne hne] at hx ⊢
          exact hx
        | _ => exact hx
      refine gSeq_step ?_
      walk_at "kf1"
      rw [rIx_d (hxa _) (ixC0 _ _)]
      rw [rIx_r updO_same (show atI (p.ins.map dP) i = some (dP c) by rw [atI_map, h2]; rfl)]
      rw [rSl_d (hxa _), cut1_c]
      have hwp := withPart_ok hw c r hc.1
      refine ⟨c, q, w, _, r, rfl, rfl, h5, by simp only [List.length_cons] at hn; omega, hc.1, hw, ?_⟩
      dsimp only
      rw [rIx_d (hxa _) (ixC0 _ _)]
      walk_at "kf1"
      simp only [rSetD, updO_same, List.length_map, h3, updO_updO]
      try dsimp only
      walk_at "kf1"
      refine ⟨p, .ref a, p.ins.set i.toNat (withPart c r w), rfl, by simp only [deref, updO_same, List.map_set], by rw [List.length_set], fun u hu => ?_, ?_⟩
      · rcases List.mem_or_eq_of_mem_set hu with hu | rfl
        · exact (ins_ok hu hs).1
        · exact hwp.1
      · rw [← h6]
        exact .up ha hR
end
end Kf
namespace Kf
open PySem PySem.Spec L2
open PyProof.Rows hiding St
local macro_rules | `(tactic| walk_at "kf") => `(tactic| simp (config := { failIfUnchanged := false }) only [startD, ap_fiEnumT, asT1_t, ap_fKGet, asStr_s, ap_fKIn, ap_fKIx, ap_gAsgL, rUnl_l, ap_fiRng3, asR3_i, rSplitO_s, ap_fOrL, rOrL_l, ap_fLcK, ap_gForK, ap_fMaxD, rMaxD_l, rMaxL_l, ap_fCallXD, ap_gForE, asLE_l, ap_fFrz, ap_fDicO, ap_fDGet, ap_fDGet1, ap_fDGet2, ap_gDPut, ap_fIsiT, ap_gForR, rRep_l, isT_i, isT_s, isT_b, isT_n, isT_t, isT_l, ap_gSeq, ap_gIf, ap_gRet, ap_gNext, ap_gSet, ap_gAsg, ap_gDrop, ap_gRetF, ap_gRetN, ap_gFor, ap_gSetIx, ap_gBreak, ap_fRev, ap_fiRevR, asIR_i, rRev_l, ap_fCallX, ap_gRaise, ap_gTry, ap_gTryAs, ap_gNever, ap_fEdic, ap_fTest, ap_fOp, ap_fVar, envGet_s, patGet_s, ap_fC, ap_fCB, ap_fCons, ap_fNil, ap_fCall, ap_fAnd, ap_fOr, ap_fNot, ap_fAndV, ap_fOrV, ap_fNotV, ap_fIf, ap_fTup, ap_fLst, ap_fLstO, ap_fChain, ap_fUn, ap_fBM, ap_fBM0, ap_fPool, rPool_i, ap_fSl, ap_fPart, ap_fNoPart, asI_i, rSl_l, ap_fiRng1, ap_fiRng2, ap_fiList, ap_fiTup, ap_fiStr, ap_fiEnum, ap_fiZip, ap_fiRev, asL_l, asT_t, asSg_s, asR1_i, asR2_i, asL1_l, asL2_l, ap_fLc, ap_fLcO, ap_fYes, wipeD, lcD, isi_i_int, isi_i_bool, isi_i_str, isi_i_tuple, isi_i_list, isi_i_dict, isi_b_int, isi_b_bool, isi_b_str, isi_b_tuple, isi_b_list, isi_b_dict, isi_s_int, isi_s_bool, isi_s_str, isi_s_tuple, isi_s_list, isi_s_dict, isi_t_int, isi_t_bool, isi_t_str, isi_t_tuple, isi_t_list, isi_t_dict, isi_l_int, isi_l_bool, isi_l_str, isi_l_tuple, isi_l_list, isi_l_dict, isi_n_int, isi_n_bool, isi_n_str, isi_n_tuple, isi_n_list, isi_n_dict, isi_d_int, isi_d_bool, isi_d_str, isi_d_tuple, isi_d_list, isi_d_dict,
  deref_tup, deref_lst, deref_int, deref_str, deref_bl, deref_non, deref_scr, rLt_i, rLt_s, rLe_i, rLe_s, rInts_i, rInts0_i, rAdd_i, rAdd_s, rAdd_l, rAdd_t, rCatO_l, rNeg_i, rLen_t, rLen_l, rLen_c, rLen_s, rMax_i, rMin_i, rInt_i, rInt_b, rDivmod_i, ap_gAug, rStr_i, rList_l, rList_t, rListO_l, rListO_t, rTup_l, rTup_t,
  rIx_t0, rIx_t1, rIx_t2, rIx_t3, rIx_l0, rIx_l1, rIx_l2, rIsN_x, isNon_t, isNon_n, isNon_i, isNon_s, isNon_l, rEq_i, rEq_b, rEq_i2, rEq_b2, rJoin_m, rSplit_s, tyOk_l, tyOk_s, patD_nm, patD_tp, patDs_nil, patDs_cons, Option.bind_some, notX, notX',
  List.map_cons, List.map_nil, List.length_cons, List.length_nil, List.cons_append, List.nil_append, List.append_nil, List.replicate, List.getElem?_cons_zero, List.getElem?_cons_succ, List.set_cons_zero, List.set_cons_succ, updO_same, updO_updO,
  Nat.reduceSub, Nat.reduceAdd, Nat.reduceLeDiff, Nat.zero_add, Int.cast_ofNat_Int, Int.natCast_zero, Int.natCast_one, Int.reduceLT, Int.reduceLE, Int.reduceEq, Int.reduceAdd, Int.reduceSub, Int.reduceNeg, decide_true, decide_false, if_true, if_false, Bool.false_eq_true, eq_self, reduceIte, Bool.true_eq_false, decide_eq_true_eq, Bool.not_true, Bool.not_false, Bool.not_eq_true', decide_eq_false_iff_not, exists_eq_left', exists_eq_left, D.bl.injEq, true_and, and_true, not_true_eq_false, not_false_eq_true])
local macro_rules | `(tactic| walk_at "len") => `(tactic| (intro ds O R RE h; first | (obtain ⟨e, _⟩ := h; subst e; rfl) | (obtain ⟨_, e, _⟩ := h; subst e; rfl) | (obtain ⟨_, _, e, _⟩ := h; subst e; rfl) | (obtain ⟨_, _, _, e, _⟩ := h; subst e; rfl) | (obtain ⟨_, _, _, _, e, _⟩ := h; subst e; rfl) | (obtain ⟨_, _, _, _, _, e, _⟩ := h; subst e; rfl) | (obtain ⟨_, _, _, _, _, _, e, _⟩ := h; subst e; rfl) | (obtain ⟨_, _, _, _, _, _, _, e, _⟩ := h; subst e; rfl) | (obtain ⟨_, _, _, _, _, _, _, _, e, _⟩ := h; subst e; rfl) | (obtain ⟨_, _, _, _, _, _, _, _, _, e, _⟩ := h; subst e; rfl)))
local macro_rules | `(tactic| walk_at "kf1") => `(tactic| simp (config := { failIfUnchanged := false }) only [startD, ap_fiEnumT, asT1_t, ap_fKGet, asStr_s, ap_fKIn, ap_fKIx, ap_gAsgL, rUnl_l, ap_fiRng3, asR3_i, rSplitO_s, ap_fOrL, rOrL_l, ap_fLcK, ap_gForK, ap_fMaxD, rMaxD_l, rMaxL_l, ap_fCallXD, ap_gForE, asLE_l, ap_fFrz, ap_fDicO, ap_fDGet, ap_fDGet1, ap_fDGet2, ap_gDPut, ap_fIsiT, ap_gForR, rRep_l, isT_i, isT_s, isT_b, isT_n, isT_t, isT_l, ap_gIf, ap_gRet, ap_gNext, ap_gSet, ap_gAsg, ap_gDrop, ap_gRetF, ap_gRetN, ap_gFor, ap_gSetIx, ap_gBreak, ap_fRev, ap_fiRevR, asIR_i, rRev_l, ap_fCallX, ap_gRaise, ap_gTry, ap_gTryAs, ap_gNever, ap_fEdic, ap_fTest, ap_fOp, ap_fVar, envGet_s, patGet_s, ap_fC, ap_fCB, ap_fCons, ap_fNil, ap_fCall, ap_fAnd, ap_fOr, ap_fNot, ap_fAndV, ap_fOrV, ap_fNotV, ap_fIf, ap_fTup, ap_fLst, ap_fLstO, ap_fChain, ap_fUn, ap_fBM, ap_fBM0, ap_fPool, rPool_i, ap_fSl, ap_fPart, ap_fNoPart, asI_i, rSl_l, ap_fiRng1, ap_fiRng2, ap_fiList, ap_fiTup, ap_fiStr, ap_fiEnum, ap_fiZip, ap_fiRev, asL_l, asT_t, asSg_s, asR1_i, asR2_i, asL1_l, asL2_l, ap_fLc, ap_fLcO, ap_fYes, wipeD, lcD, isi_i_int, isi_i_bool, isi_i_str, isi_i_tuple, isi_i_list, isi_i_dict, isi_b_int, isi_b_bool, isi_b_str, isi_b_tuple, isi_b_list, isi_b_dict, isi_s_int, isi_s_bool, isi_s_str, isi_s_tuple, isi_s_list, isi_s_dict, isi_t_int, isi_t_bool, isi_t_str, isi_t_tuple, isi_t_list, isi_t_dict, isi_l_int, isi_l_bool, isi_l_str, isi_l_tuple, isi_l_list, isi_l_dict, isi_n_int, isi_n_bool, isi_n_str, isi_n_tuple, isi_n_list, isi_n_dict, isi_d_int, isi_d_bool, isi_d_str, isi_d_tuple, isi_d_list, isi_d_dict,
  deref_tup, deref_lst, deref_int, deref_str, deref_bl, deref_non, deref_scr, rLt_i, rLt_s, rLe_i, rLe_s, rInts_i, rInts0_i, rAdd_i, rAdd_s, rAdd_l, rAdd_t, rCatO_l, rNeg_i, rLen_t, rLen_l, rLen_c, rLen_s, rMax_i, rMin_i, rInt_i, rInt_b, rDivmod_i, ap_gAug, rStr_i, rList_l, rList_t, rListO_l, rListO_t, rTup_l, rTup_t,
  rIx_t0, rIx_t1, rIx_t2, rIx_t3, rIx_l0, rIx_l1, rIx_l2, rIsN_x, isNon_t, isNon_n, isNon_i, isNon_s, isNon_l, rEq_i, rEq_b, rEq_i2, rEq_b2, rJoin_m, rSplit_s, tyOk_l, tyOk_s, patD_nm, patD_tp, patDs_nil, patDs_cons, Option.bind_some, notX, notX',
  List.map_cons, List.map_nil, List.length_cons, List.length_nil, List.cons_append, List.nil_append, List.append_nil, List.replicate, List.getElem?_cons_zero, List.getElem?_cons_succ, List.set_cons_zero, List.set_cons_succ, updO_same, updO_updO,
  Nat.reduceSub, Nat.reduceAdd, Nat.reduceLeDiff, Nat.zero_add, Int.cast_ofNat_Int, Int.natCast_zero, Int.natCast_one, Int.reduceLT, Int.reduceLE, Int.reduceEq, Int.reduceAdd, Int.reduceSub, Int.reduceNeg, decide_true, decide_false, if_true, if_false, Bool.false_eq_true, eq_self, reduceIte, Bool.true_eq_false, decide_eq_true_eq, Bool.not_true, Bool.not_false, Bool.not_eq_true', decide_eq_false_iff_not, exists_eq_left', exists_eq_left, D.bl.injEq, true_and, and_true, not_true_eq_false, not_false_eq_true])
section
variable {P : Program} {w : World} {K : PySem.W.Frag} {mg : Str → Option Value} {base : Heap}
local macro_rules | `(tactic| walk_at "tg") => `(tactic| simp (config := { failIfUnchanged := false }) only [te_name_take, te_name_give, te_name_pair, te_name_first, te_name_second, te_name_to, te_name_both, te_name_one, te_name_mark, te_name_name, te_name_thing, te_name_at, te_thing_take, te_thing_give, te_thing_pair, te_thing_first, te_thing_second, te_thing_to, te_thing_both, te_thing_one, te_thing_mark, te_thing_name, te_thing_thing, te_thing_at, te_take_take, te_take_give, te_take_pair, te_take_first, te_take_second, te_take_to, te_take_both, te_take_one, te_take_mark, te_take_name, te_take_thing, te_take_at, te_give_take, te_give_give, te_give_pair, te_give_first, te_give_second, te_give_to, te_give_both, te_give_one, te_give_mark, te_give_name, te_give_thing, te_give_at, te_pair_take, te_pair_give, te_pair_pair, te_pair_first, te_pair_second, te_pair_to, te_pair_both, te_pair_one, te_pair_mark, te_pair_name, te_pair_thing, te_pair_at, te_first_take, te_first_give, te_first_pair, te_first_first, te_first_second, te_first_to, te_first_both, te_first_one, te_first_mark, te_first_name, te_first_thing, te_first_at, te_second_take, te_second_give, te_second_pair, te_second_first, te_second_second, te_second_to, te_second_both, te_second_one, te_second_mark, te_second_name, te_second_thing, te_second_at, te_mark_take, te_mark_give, te_mark_pair, te_mark_first, te_mark_second, te_mark_to, te_mark_both, te_mark_one, te_mark_mark, te_mark_name, te_mark_thing, te_mark_at, te_one_take, te_one_give, te_one_pair, te_one_first, te_one_second, te_one_to, te_one_both, te_one_one, te_one_mark, te_one_name, te_one_thing, te_one_at, te_to_take, te_to_give, te_to_pair, te_to_first, te_to_second, te_to_to, te_to_both, te_to_one, te_to_mark, te_to_name, te_to_thing, te_to_at, te_both_take, te_both_give, te_both_pair, te_both_first, te_both_second, te_both_to, te_both_both, te_both_one, te_both_mark, te_both_name, te_both_thing, te_both_at, te_at_take, te_at_give, te_at_pair, te_at_first, te_at_second, te_at_to, te_at_both, te_at_one, te_at_mark, te_at_name, te_at_thing, te_at_at, ti4_name, ti4_thing, ti4_take, ti4_give, ti4_pair, ti4_first, ti4_second, ti2_name, ti2_thing, ti2_take, ti2_give, ti2_pair, ti2_first, ti2_second, szT_0, szT_1, szT_2, szT_3, szT_4, szT_5, szT_6, szT_7, szT_8, szT_9, szT_10, szT_11, szT_12, Bool.not_true, Bool.not_false, true_and])
theorem xn_ok64 : ∀ k, k < 512 → PyData.strOk (xn k) = true ∧ (Str.ofString "x").length + (Str.ofString (toString (k : Int))).length ≤ 100 := by
  have h : ∀ k ∈ List.range 512, PyData.strOk (xn k) = true ∧ (Str.ofString "x").length + (Str.ofString (toString (k : Int))).length ≤ 100 := by decide +kernel
  exact fun k hk => h k (List.mem_range.mpr hk)
theorem tidy_ok : ∀ (p : Pg) (c : List Str), p.sok = true → c.length + p.hgt < 512 → (tidy p c).sok = true ∧ (tidy p c).dpt = p.dpt
  | .nm x, c, h, hl => by
    simp only [tidy]
    cases e : ri c x with
    | none => exact ⟨h, rfl⟩
    | some i => exact ⟨(xn_ok64 _ (by simp only [Pg.hgt] at hl; omega)).1, rfl⟩
  | .thing, c, h, hl => ⟨rfl, rfl⟩
  | .take x k b, c, h, hl => by
    simp only [Pg.sok, Bool.and_eq_true] at h
    simp only [Pg.hgt] at hl
    have ih := tidy_ok b (x :: c) h.2 (by rw [List.length_cons]; omega)
    simp only [tidy, Pg.sok, Pg.dpt, ih.1, ih.2, (xn_ok64 c.length (by omega)).1, h.1.2, Bool.and_self, and_self]
  | .give f a, c, h, hl => by
    simp only [Pg.sok, Bool.and_eq_true] at h
    simp only [Pg.hgt] at hl
    have h1 := tidy_ok f c h.1 (by omega)
    have h2 := tidy_ok a c h.2 (by omega)
    simp only [tidy, Pg.sok, Pg.dpt, h1.1, h1.2, h2.1, h2.2, Bool.and_self, and_self]
  | .pair f a, c, h, hl => by
    simp only [Pg.sok, Bool.and_eq_true] at h
    simp only [Pg.hgt] at hl
    have h1 := tidy_ok f c h.1 (by omega)
    have h2 := tidy_ok a c h.2 (by omega)
    simp only [tidy, Pg.sok, Pg.dpt, h1.1, h1.2, h2.1, h2.2, Bool.and_self, and_self]
  | .first f, c, h, hl => by
    simp only [Pg.hgt] at hl
    have h1 := tidy_ok f c h (by omega)
    simp only [tidy, Pg.sok, Pg.dpt, h1.1, h1.2, and_self]
  | .second f, c, h, hl => by
    simp only [Pg.hgt] at hl
    have h1 := tidy_ok f c h (by omega)
    simp only [tidy, Pg.sok, Pg.dpt, h1.1, h1.2, and_self]
theorem rangeD_rev (m : Nat) : (rangeD 0 (m + 1)).reverse = .int (m : Nat) :: (rangeD 0 m).reverse := by
  simp [rangeD_map, List.range_succ]
abbrev gbT : GS := gIf (fTest (fOp (rEqD false) (fOp rIxD (fVar 1) (fVar 2)) (fOp rIxD (fVar 0) (fC (.int 1))))) (gRet (fTup (fCons (fC (.str "name")) (fCons (fOp rAddD (fC (.str "x")) (fCB rStr1 (fCons (fVar 2) fNil))) fNil)))) gNext
theorem tidy_loop {R0 : DEnds} {x : Str} {O : Ow} (hx : PyData.strOk x = true) : ∀ (rest pre : List Str) (x2 x3 x4 : Option D), (∀ y ∈ pre ++ rest, PyData.strOk y = true) → (pre ++ rest).length ≤ 500 →
    (∀ i, ri rest x = some i → R0.rt (dP (.nm (xn (rest.length - 1 - i)))) O) → (ri rest x = none → ∀ x2, R0.nx [some (dP (.nm x)), some (.lst ((pre ++ rest).reverse.map .str)), x2, x3, x4] O) →
    forD (.nm 2) gbT R0 (rangeD 0 rest.length).reverse [some (dP (.nm x)), some (.lst ((pre ++ rest).reverse.map .str)), x2, x3, x4] O
  | [], pre, x2, x3, x4, _, _, _, hn => by
    show forD _ _ _ [] _ _
    unfold forD
    exact hn rfl x2
  | y :: rest, pre, x2, x3, x4, ho, hl, hs, hn => by
    rw [List.length_cons, rangeD_rev]
    unfold forD
    have hy : PyData.strOk y = true := ho y (by simp)
    have hlen : rest.length < 500 := by rw [List.length_append, List.length_cons] at hl; omega
    have e : atI ((pre ++ y :: rest).reverse.map D.str) (rest.length : Int) = some (.str y) := by
      refine atI_nat ?_
      rw [List.getElem?_map]
      have : (pre ++ y :: rest).reverse[rest.length]? = some y := by
        rw [List.reverse_append, List.reverse_cons, List.append_assoc, List.getElem?_append_right (by simp)]
        simp
      rw [this]; rfl
    simp only [dP]
    walk_at "kf1"
    rw [rIx_l e, rEq_s hy hx]
    walk_at "kf1"
    by_cases c : y = x
    · have z := xn_ok64 rest.length (by omega)
      have h1 := hs 0 (by unfold ri; rw [if_pos c])
      simp only [c, decide_true, Bool.false_xor]
      walk_at "kf1"
      refine ⟨?_, sz_small (by omega), ?_⟩
      · rw [Int.natAbs_natCast]
        have : Nat.log2 rest.length < 500 + 1 := by
          have h2 : Nat.log2 rest.length ≤ rest.length := Nat.log2_le_self _
          omega
        omega
      · walk_at "tg"
        rw [List.length_cons] at h1
        simpa [dP, xn] using h1
    · simp only [c, decide_false, Bool.false_xor]
      walk_at "kf1"
      have ih := tidy_loop (R0 := R0) (O := O) hx rest (pre ++ [y]) (some (.int rest.length)) x3 x4 (by simpa using ho) (by simpa using hl) (fun i hi => by
        have := hs (i + 1) (by unfold ri; rw [if_neg c, hi]; rfl)
        rw [List.length_cons, show rest.length + 1 - 1 - (i + 1) = rest.length - 1 - i by omega] at this
        exact this) (fun hi x2 => by
        have := hn (by unfold ri; rw [if_neg c, hi]; rfl) x2
        simpa using this)
      simpa [dP] using ih
def spTidy (n : Nat) : DSp := fun ds O R _ => ∃ (p : Pg) (c : List Str), ds = [dP p, .lst (c.reverse.map .str)] ∧ p.hgt < n ∧ c.length + p.hgt < 500 ∧ p.sok = true ∧ (∀ y ∈ c, PyData.strOk y = true) ∧ R (dP (tidy p c)) O
theorem tidy_ins (p : Pg) (c : List Str) (h : ∀ x k b, p ≠ .take x k b) (h2 : ∀ x, p ≠ .nm x) : tidy p c = setIns p (p.ins.map fun q => tidy q c) := by
  cases p with
  | take x k b => exact absurd rfl (h x k b)
  | nm x => exact absurd rfl (h2 x)
  | _ => rfl
theorem ok_tidied_within (T : Tx K mg) : ∀ n, FO_tidied_within P w base T (n + 2) (spTidy n)
  | 0 => none_left fun ds O R RE ⟨p, c, _, h, _⟩ => by omega
  | n + 1 => by
    refine fnd_tidied_within T (ok_tidied_within T n) (fnUp (ok_with_inner T) (by omega)) (fnUp (ok_innerO T) (by omega)) (by walk_at "len") ?_
    rintro ds O R RE ⟨p, c, rfl, hn, hc, hs, hcs, hR⟩
    unfold g_tidied_within
    have fin : ∀ (R1 : VD) (x2 x3 x4 : Option D), (∀ x k b, p ≠ .take x k b) → (∀ x, p ≠ .nm x) → R1 = R → gRet (fCall spWithInner (fCons (fVar 0) (fCons (fLc (fiList (fFrz (fCall spInnerO (fCons (fVar 0) fNil)))) (.nm 4) fYes (fCall (spTidy n) (fCons (fVar 4) (fCons (fVar 1) fNil))) [4]) fNil))) { nx := fun _ O' => R .non O', rt := R1 } [some (dP p), some (.lst (c.reverse.map .str)), x2, x3, x4] O := by
      rintro R1 x2 x3 x4 h1 h2 rfl
      walk_at "kf1"
      refine ⟨p, rfl, fun a ha => ?_⟩
      try dsimp only
      rw [rFrz_u ha]
      walk_at "kf1"
      have hln : p.ins.length ≤ 2 := by rcases ins_cases p with e | ⟨x, e⟩ | ⟨x, y, e⟩ <;> rw [e] <;> simp
      refine lcA_map dP (fun q => dP (tidy q c)) p.ins _ _ (sz_small (by simp only [List.length_nil]; omega)) ?_ ?_
      · intro q hq Q' hQ'
        have h3 := ins_ok hq hs
        have h4 := ins_hgt hq
        walk_at "kf1"
        exact ⟨q, c, rfl, by omega, by omega, h3.1, hcs, hQ'⟩
      · rw [List.nil_append]
        refine ⟨p, _, p.ins.map fun q => tidy q c, rfl, by simp only [deref_lst, List.map_map]; rfl, by rw [List.length_map], fun u hu => ?_, ?_⟩
        · obtain ⟨q, hq, rfl⟩ := List.mem_map.mp hu
          have h4 := ins_hgt hq
          exact (tidy_ok q c (ins_ok hq hs).1 (by omega)).1
        · rw [← tidy_ins p c h1 h2]
          exact hR
    cases p with
    | nm x =>
      clear fin
      simp only [dP] at hR ⊢
      refine gSeq_step ?_
      walk_at "kf1"
      walk_at "tg"
      walk_at "kf1"
      refine gSeq_step ?_
      walk_at "kf1"
      rw [List.length_map, List.length_reverse]
      refine ⟨by omega, by omega, ?_⟩
      rw [Int.toNat_natCast]
      refine tidy_loop (x := x) hs c [] _ _ _ (by simpa using hcs) (by simp only [List.nil_append]; omega) (fun i hi => ?_) (fun hi x2 => ?_)
      · simpa [tidy, hi] using hR
      · try dsimp only
        walk_at "kf1"
        simpa [tidy, hi] using hR
    | take x k b =>
      clear fin
      simp only [Pg.hgt, Pg.sok, Bool.and_eq_true] at hn hc hs
      have z := xn_ok64 c.length (by omega)
      simp only [dP] at hR ⊢
      refine gSeq_step ?_
      walk_at "kf1"
      walk_at "tg"
      walk_at "kf1"
      refine gSeq_step ?_
      walk_at "kf1"
      walk_at "tg"
      walk_at "kf1"
      refine gSeq_step ?_
      walk_at "kf1"
      walk_at "tg"
      refine ⟨sz_small (by rw [List.length_map, List.length_reverse]; omega), b, x :: c, by simp, by omega, by rw [List.length_cons]; omega, hs.2, fun y hy => ?_, ?_⟩
      · rcases List.mem_cons.mp hy with rfl | hy
        · exact hs.1.1
        · exact hcs y hy
      · walk_at "kf1"
        rw [List.length_map, List.length_reverse]
        refine ⟨?_, sz_small (by omega), ?_⟩
        · rw [Int.natAbs_natCast]
          have h2 : Nat.log2 c.length ≤ c.length := Nat.log2_le_self _
          omega
        · walk_at "tg"
          exact hR
    | _ =>
      have f1 := fin R none none none (by intros; simp) (by intros; simp) rfl
      simp only [dP] at f1 ⊢
      refine gSeq_step ?_
      walk_at "kf1"
      walk_at "tg"
      walk_at "kf1"
      refine gSeq_step ?_
      walk_at "kf1"
      walk_at "tg"
      walk_at "kf1"
      exact f1
def spTidied : DSp := fun ds O R _ => ∃ p : Pg, ds = [dP p] ∧ p.hgt ≤ 202 ∧ p.sok = true ∧ R (dP (tidy p [])) O
theorem ok_tidied (T : Tx K mg) : FO_tidied P w base T 206 spTidied := by
  refine fnd_tidied T (ok_tidied_within T 203) (by walk_at "len") ?_
  rintro ds O R RE ⟨p, rfl, hh, hs, hR⟩
  unfold g_tidied
  walk_at "kf"
  walk_at "tg"
  exact ⟨p, [], rfl, by omega, by simp only [List.length_nil]; omega, hs, (fun _ h => by cases h), hR⟩
end
end Kf
namespace Kf
open PySem PySem.Spec L2
open PyProof.Rows hiding St
local macro_rules | `(tactic| walk_at "kf") => `(tactic| simp (config := { failIfUnchanged := false }) only [startD, ap_fiEnumT, asT1_t, ap_fKGet, asStr_s, ap_fKIn, ap_fKIx, ap_gAsgL, rUnl_l, ap_fiRng3, asR3_i, rSplitO_s, ap_fOrL, rOrL_l, ap_fLcK, ap_gForK, ap_fMaxD, rMaxD_l, rMaxL_l, ap_fCallXD, ap_gForE, asLE_l, ap_fFrz, ap_fDicO, ap_fDGet, ap_fDGet1, ap_fDGet2, ap_gDPut, ap_fIsiT, ap_gForR, rRep_l, isT_i, isT_s, isT_b, isT_n, isT_t, isT_l, ap_gSeq, ap_gIf, ap_gRet, ap_gNext, ap_gSet, ap_gAsg, ap_gDrop, ap_gRetF, ap_gRetN, ap_gFor, ap_gSetIx, ap_gBreak, ap_fRev, ap_fiRevR, asIR_i, rRev_l, ap_fCallX, ap_gRaise, ap_gTry, ap_gTryAs, ap_gNever, ap_fEdic, ap_fTest, ap_fOp, ap_fVar, envGet_s, patGet_s, ap_fC, ap_fCB, ap_fCons, ap_fNil, ap_fCall, ap_fAnd, ap_fOr, ap_fNot, ap_fAndV, ap_fOrV, ap_fNotV, ap_fIf, ap_fTup, ap_fLst, ap_fLstO, ap_fChain, ap_fUn, ap_fBM, ap_fBM0, ap_fPool, rPool_i, ap_fSl, ap_fPart, ap_fNoPart, asI_i, rSl_l, ap_fiRng1, ap_fiRng2, ap_fiList, ap_fiTup, ap_fiStr, ap_fiEnum, ap_fiZip, ap_fiRev, asL_l, asT_t, asSg_s, asR1_i, asR2_i, asL1_l, asL2_l, ap_fLc, ap_fLcO, ap_fYes, wipeD, lcD, isi_i_int, isi_i_bool, isi_i_str, isi_i_tuple, isi_i_list, isi_i_dict, isi_b_int, isi_b_bool, isi_b_str, isi_b_tuple, isi_b_list, isi_b_dict, isi_s_int, isi_s_bool, isi_s_str, isi_s_tuple, isi_s_list, isi_s_dict, isi_t_int, isi_t_bool, isi_t_str, isi_t_tuple, isi_t_list, isi_t_dict, isi_l_int, isi_l_bool, isi_l_str, isi_l_tuple, isi_l_list, isi_l_dict, isi_n_int, isi_n_bool, isi_n_str, isi_n_tuple, isi_n_list, isi_n_dict, isi_d_int, isi_d_bool, isi_d_str, isi_d_tuple, isi_d_list, isi_d_dict,
  deref_tup, deref_lst, deref_int, deref_str, deref_bl, deref_non, deref_scr, rLt_i, rLt_s, rLe_i, rLe_s, rInts_i, rInts0_i, rAdd_i, rAdd_s, rAdd_l, rAdd_t, rCatO_l, rNeg_i, rLen_t, rLen_l, rLen_c, rLen_s, rMax_i, rMin_i, rInt_i, rInt_b, rDivmod_i, ap_gAug, rStr_i, rList_l, rList_t, rListO_l, rListO_t, rTup_l, rTup_t,
  rIx_t0, rIx_t1, rIx_t2, rIx_t3, rIx_l0, rIx_l1, rIx_l2, rIsN_x, isNon_t, isNon_n, isNon_i, isNon_s, isNon_l, rEq_i, rEq_b, rEq_i2, rEq_b2, rJoin_m, rSplit_s, tyOk_l, tyOk_s, patD_nm, patD_tp, patDs_nil, patDs_cons, Option.bind_some, notX, notX',
  List.map_cons, List.map_nil, List.length_cons, List.length_nil, List.cons_append, List.nil_append, List.append_nil, List.replicate, List.getElem?_cons_zero, List.getElem?_cons_succ, List.set_cons_zero, List.set_cons_succ, updO_same, updO_updO,
  Nat.reduceSub, Nat.reduceAdd, Nat.reduceLeDiff, Nat.zero_add, Int.cast_ofNat_Int, Int.natCast_zero, Int.natCast_one, Int.reduceLT, Int.reduceLE, Int.reduceEq, Int.reduceAdd, Int.reduceSub, Int.reduceNeg, decide_true, decide_false, if_true, if_false, Bool.false_eq_true, eq_self, reduceIte, Bool.true_eq_false, decide_eq_true_eq, Bool.not_true, Bool.not_false, Bool.not_eq_true', decide_eq_false_iff_not, exists_eq_left', exists_eq_left, D.bl.injEq, true_and, and_true, not_true_eq_false, not_false_eq_true])
local macro_rules | `(tactic| walk_at "len") => `(tactic| (intro ds O R RE h; first | (obtain ⟨e, _⟩ := h; subst e; rfl) | (obtain ⟨_, e, _⟩ := h; subst e; rfl) | (obtain ⟨_, _, e, _⟩ := h; subst e; rfl) | (obtain ⟨_, _, _, e, _⟩ := h; subst e; rfl) | (obtain ⟨_, _, _, _, e, _⟩ := h; subst e; rfl) | (obtain ⟨_, _, _, _, _, e, _⟩ := h; subst e; rfl) | (obtain ⟨_, _, _, _, _, _, e, _⟩ := h; subst e; rfl) | (obtain ⟨_, _, _, _, _, _, _, e, _⟩ := h; subst e; rfl) | (obtain ⟨_, _, _, _, _, _, _, _, e, _⟩ := h; subst e; rfl) | (obtain ⟨_, _, _, _, _, _, _, _, _, e, _⟩ := h; subst e; rfl)))
local macro_rules | `(tactic| walk_at "kf1") => `(tactic| simp (config := { failIfUnchanged := false }) only [startD, ap_fiEnumT, asT1_t, ap_fKGet, asStr_s, ap_fKIn, ap_fKIx, ap_gAsgL, rUnl_l, ap_fiRng3, asR3_i, rSplitO_s, ap_fOrL, rOrL_l, ap_fLcK, ap_gForK, ap_fMaxD, rMaxD_l, rMaxL_l, ap_fCallXD, ap_gForE, asLE_l, ap_fFrz, ap_fDicO, ap_fDGet, ap_fDGet1, ap_fDGet2, ap_gDPut, ap_fIsiT, ap_gForR, rRep_l, isT_i, isT_s, isT_b, isT_n, isT_t, isT_l, ap_gIf, ap_gRet, ap_gNext, ap_gSet, ap_gAsg, ap_gDrop, ap_gRetF, ap_gRetN, ap_gFor, ap_gSetIx, ap_gBreak, ap_fRev, ap_fiRevR, asIR_i, rRev_l, ap_fCallX, ap_gRaise, ap_gTry, ap_gTryAs, ap_gNever, ap_fEdic, ap_fTest, ap_fOp, ap_fVar, envGet_s, patGet_s, ap_fC, ap_fCB, ap_fCons, ap_fNil, ap_fCall, ap_fAnd, ap_fOr, ap_fNot, ap_fAndV, ap_fOrV, ap_fNotV, ap_fIf, ap_fTup, ap_fLst, ap_fLstO, ap_fChain, ap_fUn, ap_fBM, ap_fBM0, ap_fPool, rPool_i, ap_fSl, ap_fPart, ap_fNoPart, asI_i, rSl_l, ap_fiRng1, ap_fiRng2, ap_fiList, ap_fiTup, ap_fiStr, ap_fiEnum, ap_fiZip, ap_fiRev, asL_l, asT_t, asSg_s, asR1_i, asR2_i, asL1_l, asL2_l, ap_fLc, ap_fLcO, ap_fYes, wipeD, lcD, isi_i_int, isi_i_bool, isi_i_str, isi_i_tuple, isi_i_list, isi_i_dict, isi_b_int, isi_b_bool, isi_b_str, isi_b_tuple, isi_b_list, isi_b_dict, isi_s_int, isi_s_bool, isi_s_str, isi_s_tuple, isi_s_list, isi_s_dict, isi_t_int, isi_t_bool, isi_t_str, isi_t_tuple, isi_t_list, isi_t_dict, isi_l_int, isi_l_bool, isi_l_str, isi_l_tuple, isi_l_list, isi_l_dict, isi_n_int, isi_n_bool, isi_n_str, isi_n_tuple, isi_n_list, isi_n_dict, isi_d_int, isi_d_bool, isi_d_str, isi_d_tuple, isi_d_list, isi_d_dict,
  deref_tup, deref_lst, deref_int, deref_str, deref_bl, deref_non, deref_scr, rLt_i, rLt_s, rLe_i, rLe_s, rInts_i, rInts0_i, rAdd_i, rAdd_s, rAdd_l, rAdd_t, rCatO_l, rNeg_i, rLen_t, rLen_l, rLen_c, rLen_s, rMax_i, rMin_i, rInt_i, rInt_b, rDivmod_i, ap_gAug, rStr_i, rList_l, rList_t, rListO_l, rListO_t, rTup_l, rTup_t,
  rIx_t0, rIx_t1, rIx_t2, rIx_t3, rIx_l0, rIx_l1, rIx_l2, rIsN_x, isNon_t, isNon_n, isNon_i, isNon_s, isNon_l, rEq_i, rEq_b, rEq_i2, rEq_b2, rJoin_m, rSplit_s, tyOk_l, tyOk_s, patD_nm, patD_tp, patDs_nil, patDs_cons, Option.bind_some, notX, notX',
  List.map_cons, List.map_nil, List.length_cons, List.length_nil, List.cons_append, List.nil_append, List.append_nil, List.replicate, List.getElem?_cons_zero, List.getElem?_cons_succ, List.set_cons_zero, List.set_cons_succ, updO_same, updO_updO,
  Nat.reduceSub, Nat.reduceAdd, Nat.reduceLeDiff, Nat.zero_add, Int.cast_ofNat_Int, Int.natCast_zero, Int.natCast_one, Int.reduceLT, Int.reduceLE, Int.reduceEq, Int.reduceAdd, Int.reduceSub, Int.reduceNeg, decide_true, decide_false, if_true, if_false, Bool.false_eq_true, eq_self, reduceIte, Bool.true_eq_false, decide_eq_true_eq, Bool.not_true, Bool.not_false, Bool.not_eq_true', decide_eq_false_iff_not, exists_eq_left', exists_eq_left, D.bl.injEq, true_and, and_true, not_true_eq_false, not_false_eq_true])
section
variable {P : Program} {w : World} {K : PySem.W.Frag} {mg : Str → Option Value} {base : Heap}
local macro_rules | `(tactic| walk_at "tg") => `(tactic| simp (config := { failIfUnchanged := false }) only [te_name_take, te_name_give, te_name_pair, te_name_first, te_name_second, te_name_to, te_name_both, te_name_one, te_name_mark, te_name_name, te_name_thing, te_name_at, te_thing_take, te_thing_give, te_thing_pair, te_thing_first, te_thing_second, te_thing_to, te_thing_both, te_thing_one, te_thing_mark, te_thing_name, te_thing_thing, te_thing_at, te_take_take, te_take_give, te_take_pair, te_take_first, te_take_second, te_take_to, te_take_both, te_take_one, te_take_mark, te_take_name, te_take_thing, te_take_at, te_give_take, te_give_give, te_give_pair, te_give_first, te_give_second, te_give_to, te_give_both, te_give_one, te_give_mark, te_give_name, te_give_thing, te_give_at, te_pair_take, te_pair_give, te_pair_pair, te_pair_first, te_pair_second, te_pair_to, te_pair_both, te_pair_one, te_pair_mark, te_pair_name, te_pair_thing, te_pair_at, te_first_take, te_first_give, te_first_pair, te_first_first, te_first_second, te_first_to, te_first_both, te_first_one, te_first_mark, te_first_name, te_first_thing, te_first_at, te_second_take, te_second_give, te_second_pair, te_second_first, te_second_second, te_second_to, te_second_both, te_second_one, te_second_mark, te_second_name, te_second_thing, te_second_at, te_mark_take, te_mark_give, te_mark_pair, te_mark_first, te_mark_second, te_mark_to, te_mark_both, te_mark_one, te_mark_mark, te_mark_name, te_mark_thing, te_mark_at, te_one_take, te_one_give, te_one_pair, te_one_first, te_one_second, te_one_to, te_one_both, te_one_one, te_one_mark, te_one_name, te_one_thing, te_one_at, te_to_take, te_to_give, te_to_pair, te_to_first, te_to_second, te_to_to, te_to_both, te_to_one, te_to_mark, te_to_name, te_to_thing, te_to_at, te_both_take, te_both_give, te_both_pair, te_both_first, te_both_second, te_both_to, te_both_both, te_both_one, te_both_mark, te_both_name, te_both_thing, te_both_at, te_at_take, te_at_give, te_at_pair, te_at_first, te_at_second, te_at_to, te_at_both, te_at_one, te_at_mark, te_at_name, te_at_thing, te_at_at, ti4_name, ti4_thing, ti4_take, ti4_give, ti4_pair, ti4_first, ti4_second, ti2_name, ti2_thing, ti2_take, ti2_give, ti2_pair, ti2_first, ti2_second, szT_0, szT_1, szT_2, szT_3, szT_4, szT_5, szT_6, szT_7, szT_8, szT_9, szT_10, szT_11, szT_12, Bool.not_true, Bool.not_false, true_and])
theorem deref_dP (p : Pg) (O : Ow) : deref O (dP p) = dP p := by cases p <;> rfl
theorem deq_nm (p : Pg) (x : Str) : deq (dP p) (dP (.nm x)) = decide (p = .nm x) := by
  cases p with
  | nm y => simp only [dP, deq_t, deqs_cc, deqs_nn, deq_s]; simp
  | thing => simp only [dP, deq_t, deqs_cc, deq_s]; rw [show decide (Str.ofString "thing" = Str.ofString "name") = false by decide +kernel]; simp
  | take y k b => simp only [dP, deq_t, deqs_cc, deq_s]; rw [show decide (Str.ofString "take" = Str.ofString "name") = false by decide +kernel]; simp
  | give f a => simp only [dP, deq_t, deqs_cc, deq_s]; rw [show decide (Str.ofString "give" = Str.ofString "name") = false by decide +kernel]; simp
  | pair f a => simp only [dP, deq_t, deqs_cc, deq_s]; rw [show decide (Str.ofString "pair" = Str.ofString "name") = false by decide +kernel]; simp
  | first f => simp only [dP, deq_t, deqs_cc, deq_s]; rw [show decide (Str.ofString "first" = Str.ofString "name") = false by decide +kernel]; simp
  | second f => simp only [dP, deq_t, deqs_cc, deq_s]; rw [show decide (Str.ofString "second" = Str.ofString "name") = false by decide +kernel]; simp
theorem rEq_nm {p : Pg} {x : Str} {O : Ow} {Q : VD} (hs : p.sok = true) (hx : PyData.strOk x = true) : rEqD false (dP p) (.tup [.str (Str.ofString "name"), .str x]) O Q = Q (.bl (decide (p = .nm x))) O := by
  show rEqD false (dP p) (dP (.nm x)) O Q = _
  rw [rEq_dr (by rw [deref_dP, isPy_dP]; exact hs) (by rw [deref_dP, isPy_dP]; exact hx) (by rw [deref_dP, dp_dP]; simp [Pg.dpt]), deref_dP, deref_dP, deq_nm, Bool.false_xor]
theorem wgiven_ins (p : Pg) (x : Str) (g : Pg) (h : p ≠ .nm x) : wgiven p x g = setIns p (p.ins.map fun q => wgiven q x g) := by
  cases p with
  | nm y => simp only [wgiven, Pg.ins]; rw [if_neg (fun e => h (by rw [e]))]; rfl
  | _ => rfl
theorem wgiven_ok {x : Str} {g : Pg} (hg : g.sok = true) : ∀ p : Pg, p.sok = true → (wgiven p x g).sok = true ∧ (wgiven p x g).dpt ≤ p.dpt + g.dpt ∧ (wgiven p x g).hgt ≤ p.hgt + g.hgt
  | .nm y, h => by
    simp only [wgiven]
    split
    · exact ⟨hg, by omega, by omega⟩
    · exact ⟨h, by omega, by omega⟩
  | .thing, h => ⟨rfl, by simp [wgiven], by simp [wgiven]⟩
  | .take y k b, h => by
    simp only [Pg.sok, Bool.and_eq_true] at h
    have h1 := wgiven_ok (x := x) hg b h.2
    simp only [wgiven, Pg.sok, Pg.dpt, Pg.hgt, h.1.1, h.1.2, h1.1, Bool.and_self, true_and]
    omega
  | .give f a, h => by
    simp only [Pg.sok, Bool.and_eq_true] at h
    have h1 := wgiven_ok (x := x) hg f h.1
    have h2 := wgiven_ok (x := x) hg a h.2
    simp only [wgiven, Pg.sok, Pg.dpt, Pg.hgt, h1.1, h2.1, Bool.and_self, true_and]
    omega
  | .pair f a, h => by
    simp only [Pg.sok, Bool.and_eq_true] at h
    have h1 := wgiven_ok (x := x) hg f h.1
    have h2 := wgiven_ok (x := x) hg a h.2
    simp only [wgiven, Pg.sok, Pg.dpt, Pg.hgt, h1.1, h2.1, Bool.and_self, true_and]
    omega
  | .first f, h => by
    have h1 := wgiven_ok (x := x) hg f h
    simp only [wgiven, Pg.sok, Pg.dpt, Pg.hgt, h1.1, true_and]
    omega
  | .second f, h => by
    have h1 := wgiven_ok (x := x) hg f h
    simp only [wgiven, Pg.sok, Pg.dpt, Pg.hgt, h1.1, true_and]
    omega
def spWG (n : Nat) : DSp := fun ds O R _ => ∃ (p : Pg) (x : Str) (g : Pg), ds = [dP p, .str x, dP g] ∧ p.hgt < n ∧ p.sok = true ∧ PyData.strOk x = true ∧ g.sok = true ∧ R (dP (wgiven p x g)) O
theorem ok_with_given (T : Tx K mg) : ∀ n, FO_with_given P w base T (n + 2) (spWG n)
  | 0 => none_left fun ds O R RE ⟨p, x, g, _, h, _⟩ => by omega
  | n + 1 => by
    refine fnd_with_given T (fnUp (ok_with_inner T) (by omega)) (fnUp (ok_innerO T) (by omega)) (ok_with_given T n) (by walk_at "len") ?_
    rintro ds O R RE ⟨p, x, g, rfl, hn, hs, hx, hg, hR⟩
    unfold g_with_given
    refine gSeq_step ?_
    walk_at "kf1"
    walk_at "tg"
    rw [rEq_nm hs hx]
    walk_at "kf1"
    by_cases c : p = .nm x
    · rw [if_pos c]
      subst c
      simpa [wgiven] using hR
    · rw [if_neg c]
      try dsimp only
      walk_at "kf1"
      refine ⟨p, rfl, fun a ha => ?_⟩
      try dsimp only
      rw [rFrz_u ha]
      walk_at "kf1"
      have hln : p.ins.length ≤ 2 := by rcases ins_cases p with e | ⟨x, e⟩ | ⟨x, y, e⟩ <;> rw [e] <;> simp
      refine lcA_map dP (fun q => dP (wgiven q x g)) p.ins _ _ (sz_small (by simp only [List.length_nil]; omega)) ?_ ?_
      · intro q hq Q' hQ'
        have h3 := ins_ok hq hs
        have h4 := ins_hgt hq
        walk_at "kf1"
        exact ⟨q, x, g, rfl, by omega, h3.1, hx, hg, hQ'⟩
      · rw [List.nil_append]
        refine ⟨p, _, p.ins.map fun q => wgiven q x g, rfl, by simp only [deref_lst, List.map_map]; rfl, by rw [List.length_map], fun u hu => ?_, ?_⟩
        · obtain ⟨q, hq, rfl⟩ := List.mem_map.mp hu
          exact (wgiven_ok hg q (ins_ok hq hs).1).1
        · rw [← wgiven_ins p x g c]
          exact hR
def spWC (n : Nat) : DSp := fun ds O R _ => ∃ p : Pg, ds = [dP p] ∧ p.can = true ∧ p.hgt < n ∧ p.sok = true ∧ R (dP (wc p)) O
theorem ok_what_comes (T : Tx K mg) (n : Nat) : FO_what_comes P w base T (n + 3) (spWC n) := by
  refine fnd_what_comes T (ok_with_given T n) (by walk_at "len") ?_
  rintro ds O R RE ⟨p, rfl, hc, hn, hs, hR⟩
  unfold g_what_comes
  cases p with
  | give f a =>
    cases f <;> first | (simp [Pg.can, Pg.isTake] at hc; done) | skip
    rename_i x k b
    simp only [Pg.hgt, Pg.sok, Bool.and_eq_true] at hn hs
    simp only [dP, wc] at hR ⊢
    refine gSeq_step ?_
    walk_at "kf1"
    walk_at "tg"
    walk_at "kf1"
    refine gSeq_step ?_
    walk_at "kf1"
    exact ⟨b, x, a, rfl, by omega, hs.1.2, hs.1.1.1, hs.2, hR⟩
  | first f =>
    cases f <;> first | (simp [Pg.can, Pg.isPair] at hc; done) | skip
    simp only [dP, wc] at hR ⊢
    refine gSeq_step ?_
    walk_at "kf1"
    walk_at "tg"
    walk_at "kf1"
    walk_at "tg"
    walk_at "kf1"
    exact hR
  | second f =>
    cases f <;> first | (simp [Pg.can, Pg.isPair] at hc; done) | skip
    simp only [dP, wc] at hR ⊢
    refine gSeq_step ?_
    walk_at "kf1"
    walk_at "tg"
    walk_at "kf1"
    walk_at "tg"
    walk_at "kf1"
    exact hR
  | _ => simp [Pg.can] at hc
end
end Kf
namespace Kf
open PySem PySem.Spec L2
open PyProof.Rows hiding St
local macro_rules | `(tactic| walk_at "kf") => `(tactic| simp (config := { failIfUnchanged := false }) only [startD, ap_fiEnumT, asT1_t, ap_fKGet, asStr_s, ap_fKIn, ap_fKIx, ap_gAsgL, rUnl_l, ap_fiRng3, asR3_i, rSplitO_s, ap_fOrL, rOrL_l, ap_fLcK, ap_gForK, ap_fMaxD, rMaxD_l, rMaxL_l, ap_fCallXD, ap_gForE, asLE_l, ap_fFrz, ap_fDicO, ap_fDGet, ap_fDGet1, ap_fDGet2, ap_gDPut, ap_fIsiT, ap_gForR, rRep_l, isT_i, isT_s, isT_b, isT_n, isT_t, isT_l, ap_gSeq, ap_gIf, ap_gRet, ap_gNext, ap_gSet, ap_gAsg, ap_gDrop, ap_gRetF, ap_gRetN, ap_gFor, ap_gSetIx, ap_gBreak, ap_fRev, ap_fiRevR, asIR_i, rRev_l, ap_fCallX, ap_gRaise, ap_gTry, ap_gTryAs, ap_gNever, ap_fEdic, ap_fTest, ap_fOp, ap_fVar, envGet_s, patGet_s, ap_fC, ap_fCB, ap_fCons, ap_fNil, ap_fCall, ap_fAnd, ap_fOr, ap_fNot, ap_fAndV, ap_fOrV, ap_fNotV, ap_fIf, ap_fTup, ap_fLst, ap_fLstO, ap_fChain, ap_fUn, ap_fBM, ap_fBM0, ap_fPool, rPool_i, ap_fSl, ap_fPart, ap_fNoPart, asI_i, rSl_l, ap_fiRng1, ap_fiRng2, ap_fiList, ap_fiTup, ap_fiStr, ap_fiEnum, ap_fiZip, ap_fiRev, asL_l, asT_t, asSg_s, asR1_i, asR2_i, asL1_l, asL2_l, ap_fLc, ap_fLcO, ap_fYes, wipeD, lcD, isi_i_int, isi_i_bool, isi_i_str, isi_i_tuple, isi_i_list, isi_i_dict, isi_b_int, isi_b_bool, isi_b_str, isi_b_tuple, isi_b_list, isi_b_dict, isi_s_int, isi_s_bool, isi_s_str, isi_s_tuple, isi_s_list, isi_s_dict, isi_t_int, isi_t_bool, isi_t_str, isi_t_tuple, isi_t_list, isi_t_dict, isi_l_int, isi_l_bool, isi_l_str, isi_l_tuple, isi_l_list, isi_l_dict, isi_n_int, isi_n_bool, isi_n_str, isi_n_tuple, isi_n_list, isi_n_dict, isi_d_int, isi_d_bool, isi_d_str, isi_d_tuple, isi_d_list, isi_d_dict,
  deref_tup, deref_lst, deref_int, deref_str, deref_bl, deref_non, deref_scr, rLt_i, rLt_s, rLe_i, rLe_s, rInts_i, rInts0_i, rAdd_i, rAdd_s, rAdd_l, rAdd_t, rCatO_l, rNeg_i, rLen_t, rLen_l, rLen_c, rLen_s, rMax_i, rMin_i, rInt_i, rInt_b, rDivmod_i, ap_gAug, rStr_i, rList_l, rList_t, rListO_l, rListO_t, rTup_l, rTup_t,
  rIx_t0, rIx_t1, rIx_t2, rIx_t3, rIx_l0, rIx_l1, rIx_l2, rIsN_x, isNon_t, isNon_n, isNon_i, isNon_s, isNon_l, rEq_i, rEq_b, rEq_i2, rEq_b2, rJoin_m, rSplit_s, tyOk_l, tyOk_s, patD_nm, patD_tp, patDs_nil, patDs_cons, Option.bind_some, notX, notX',
  List.map_cons, List.map_nil, List.length_cons, List.length_nil, List.cons_append, List.nil_append, List.append_nil, List.replicate, List.getElem?_cons_zero, List.getElem?_cons_succ, List.set_cons_zero, List.set_cons_succ, updO_same, updO_updO,
  Nat.reduceSub, Nat.reduceAdd, Nat.reduceLeDiff, Nat.zero_add, Int.cast_ofNat_Int, Int.natCast_zero, Int.natCast_one, Int.reduceLT, Int.reduceLE, Int.reduceEq, Int.reduceAdd, Int.reduceSub, Int.reduceNeg, decide_true, decide_false, if_true, if_false, Bool.false_eq_true, eq_self, reduceIte, Bool.true_eq_false, decide_eq_true_eq, Bool.not_true, Bool.not_false, Bool.not_eq_true', decide_eq_false_iff_not, exists_eq_left', exists_eq_left, D.bl.injEq, true_and, and_true, not_true_eq_false, not_false_eq_true])
local macro_rules | `(tactic| walk_at "len") => `(tactic| (intro ds O R RE h; first | (obtain ⟨e, _⟩ := h; subst e; rfl) | (obtain ⟨_, e, _⟩ := h; subst e; rfl) | (obtain ⟨_, _, e, _⟩ := h; subst e; rfl) | (obtain ⟨_, _, _, e, _⟩ := h; subst e; rfl) | (obtain ⟨_, _, _, _, e, _⟩ := h; subst e; rfl) | (obtain ⟨_, _, _, _, _, e, _⟩ := h; subst e; rfl) | (obtain ⟨_, _, _, _, _, _, e, _⟩ := h; subst e; rfl) | (obtain ⟨_, _, _, _, _, _, _, e, _⟩ := h; subst e; rfl) | (obtain ⟨_, _, _, _, _, _, _, _, e, _⟩ := h; subst e; rfl) | (obtain ⟨_, _, _, _, _, _, _, _, _, e, _⟩ := h; subst e; rfl)))
local macro_rules | `(tactic| walk_at "kf1") => `(tactic| simp (config := { failIfUnchanged := false }) only [startD, ap_fiEnumT, asT1_t, ap_fKGet, asStr_s, ap_fKIn, ap_fKIx, ap_gAsgL, rUnl_l, ap_fiRng3, asR3_i, rSplitO_s, ap_fOrL, rOrL_l, ap_fLcK, ap_gForK, ap_fMaxD, rMaxD_l, rMaxL_l, ap_fCallXD, ap_gForE, asLE_l, ap_fFrz, ap_fDicO, ap_fDGet, ap_fDGet1, ap_fDGet2, ap_gDPut, ap_fIsiT, ap_gForR, rRep_l, isT_i, isT_s, isT_b, isT_n, isT_t, isT_l, ap_gIf, ap_gRet, ap_gNext, ap_gSet, ap_gAsg, ap_gDrop, ap_gRetF, ap_gRetN, ap_gFor, ap_gSetIx, ap_gBreak, ap_fRev, ap_fiRevR, asIR_i, rRev_l, ap_fCallX, ap_gRaise, ap_gTry, ap_gTryAs, ap_gNever, ap_fEdic, ap_fTest, ap_fOp, ap_fVar, envGet_s, patGet_s, ap_fC, ap_fCB, ap_fCons, ap_fNil, ap_fCall, ap_fAnd, ap_fOr, ap_fNot, ap_fAndV, ap_fOrV, ap_fNotV, ap_fIf, ap_fTup, ap_fLst, ap_fLstO, ap_fChain, ap_fUn, ap_fBM, ap_fBM0, ap_fPool, rPool_i, ap_fSl, ap_fPart, ap_fNoPart, asI_i, rSl_l, ap_fiRng1, ap_fiRng2, ap_fiList, ap_fiTup, ap_fiStr, ap_fiEnum, ap_fiZip, ap_fiRev, asL_l, asT_t, asSg_s, asR1_i, asR2_i, asL1_l, asL2_l, ap_fLc, ap_fLcO, ap_fYes, wipeD, lcD, isi_i_int, isi_i_bool, isi_i_str, isi_i_tuple, isi_i_list, isi_i_dict, isi_b_int, isi_b_bool, isi_b_str, isi_b_tuple, isi_b_list, isi_b_dict, isi_s_int, isi_s_bool, isi_s_str, isi_s_tuple, isi_s_list, isi_s_dict, isi_t_int, isi_t_bool, isi_t_str, isi_t_tuple, isi_t_list, isi_t_dict, isi_l_int, isi_l_bool, isi_l_str, isi_l_tuple, isi_l_list, isi_l_dict, isi_n_int, isi_n_bool, isi_n_str, isi_n_tuple, isi_n_list, isi_n_dict, isi_d_int, isi_d_bool, isi_d_str, isi_d_tuple, isi_d_list, isi_d_dict,
  deref_tup, deref_lst, deref_int, deref_str, deref_bl, deref_non, deref_scr, rLt_i, rLt_s, rLe_i, rLe_s, rInts_i, rInts0_i, rAdd_i, rAdd_s, rAdd_l, rAdd_t, rCatO_l, rNeg_i, rLen_t, rLen_l, rLen_c, rLen_s, rMax_i, rMin_i, rInt_i, rInt_b, rDivmod_i, ap_gAug, rStr_i, rList_l, rList_t, rListO_l, rListO_t, rTup_l, rTup_t,
  rIx_t0, rIx_t1, rIx_t2, rIx_t3, rIx_l0, rIx_l1, rIx_l2, rIsN_x, isNon_t, isNon_n, isNon_i, isNon_s, isNon_l, rEq_i, rEq_b, rEq_i2, rEq_b2, rJoin_m, rSplit_s, tyOk_l, tyOk_s, patD_nm, patD_tp, patDs_nil, patDs_cons, Option.bind_some, notX, notX',
  List.map_cons, List.map_nil, List.length_cons, List.length_nil, List.cons_append, List.nil_append, List.append_nil, List.replicate, List.getElem?_cons_zero, List.getElem?_cons_succ, List.set_cons_zero, List.set_cons_succ, updO_same, updO_updO,
  Nat.reduceSub, Nat.reduceAdd, Nat.reduceLeDiff, Nat.zero_add, Int.cast_ofNat_Int, Int.natCast_zero, Int.natCast_one, Int.reduceLT, Int.reduceLE, Int.reduceEq, Int.reduceAdd, Int.reduceSub, Int.reduceNeg, decide_true, decide_false, if_true, if_false, Bool.false_eq_true, eq_self, reduceIte, Bool.true_eq_false, decide_eq_true_eq, Bool.not_true, Bool.not_false, Bool.not_eq_true', decide_eq_false_iff_not, exists_eq_left', exists_eq_left, D.bl.injEq, true_and, and_true, not_true_eq_false, not_false_eq_true])
section
variable {P : Program} {w : World} {K : PySem.W.Frag} {mg : Str → Option Value} {base : Heap}
local macro_rules | `(tactic| walk_at "tg") => `(tactic| simp (config := { failIfUnchanged := false }) only [te_name_take, te_name_give, te_name_pair, te_name_first, te_name_second, te_name_to, te_name_both, te_name_one, te_name_mark, te_name_name, te_name_thing, te_name_at, te_thing_take, te_thing_give, te_thing_pair, te_thing_first, te_thing_second, te_thing_to, te_thing_both, te_thing_one, te_thing_mark, te_thing_name, te_thing_thing, te_thing_at, te_take_take, te_take_give, te_take_pair, te_take_first, te_take_second, te_take_to, te_take_both, te_take_one, te_take_mark, te_take_name, te_take_thing, te_take_at, te_give_take, te_give_give, te_give_pair, te_give_first, te_give_second, te_give_to, te_give_both, te_give_one, te_give_mark, te_give_name, te_give_thing, te_give_at, te_pair_take, te_pair_give, te_pair_pair, te_pair_first, te_pair_second, te_pair_to, te_pair_both, te_pair_one, te_pair_mark, te_pair_name, te_pair_thing, te_pair_at, te_first_take, te_first_give, te_first_pair, te_first_first, te_first_second, te_first_to, te_first_both, te_first_one, te_first_mark, te_first_name, te_first_thing, te_first_at, te_second_take, te_second_give, te_second_pair, te_second_first, te_second_second, te_second_to, te_second_both, te_second_one, te_second_mark, te_second_name, te_second_thing, te_second_at, te_mark_take, te_mark_give, te_mark_pair, te_mark_first, te_mark_second, te_mark_to, te_mark_both, te_mark_one, te_mark_mark, te_mark_name, te_mark_thing, te_mark_at, te_one_take, te_one_give, te_one_pair, te_one_first, te_one_second, te_one_to, te_one_both, te_one_one, te_one_mark, te_one_name, te_one_thing, te_one_at, te_to_take, te_to_give, te_to_pair, te_to_first, te_to_second, te_to_to, te_to_both, te_to_one, te_to_mark, te_to_name, te_to_thing, te_to_at, te_both_take, te_both_give, te_both_pair, te_both_first, te_both_second, te_both_to, te_both_both, te_both_one, te_both_mark, te_both_name, te_both_thing, te_both_at, te_at_take, te_at_give, te_at_pair, te_at_first, te_at_second, te_at_to, te_at_both, te_at_one, te_at_mark, te_at_name, te_at_thing, te_at_at, ti4_name, ti4_thing, ti4_take, ti4_give, ti4_pair, ti4_first, ti4_second, ti2_name, ti2_thing, ti2_take, ti2_give, ti2_pair, ti2_first, ti2_second, szT_0, szT_1, szT_2, szT_3, szT_4, szT_5, szT_6, szT_7, szT_8, szT_9, szT_10, szT_11, szT_12, Bool.not_true, Bool.not_false, true_and])
theorem cm_big {a b : Int} (h : 0 ≤ a) (h2 : a < 1000000000) : CMul a b := Or.inl ⟨by omega, by omega⟩
theorem rSum_m {ns : List Int} {O : Ow} {Q : VD} : rSumD [.lst (ns.map .int)] O Q = Q (.int ns.sum) O := rSum_l (asInts_map ns)
theorem psz_ins (p : Pg) : 1 + (p.ins.map fun q => (q.psz : Int)).sum = p.psz := by
  cases p <;> simp [Pg.ins, Pg.psz] <;> omega
theorem hgt_ins (p : Pg) : (if (p.ins.map fun q => 1 + (q.hgt : Int)) = [] then (0 : Int) else lmx (p.ins.map fun q => 1 + (q.hgt : Int))) = p.hgt := by
  cases p <;> simp [Pg.ins, Pg.hgt, lmx] <;> (try split) <;> omega
theorem nmc_ins (p : Pg) (x : Str) (h : p ≠ .nm x) : (p.ins.map fun q => (nmc q x : Int)).sum = nmc p x := by
  cases p with
  | nm y => simp only [nmc]; rw [if_neg (fun e => h (by rw [e]))]; rfl
  | _ => simp [Pg.ins, nmc]
theorem lcMap_ints {α : Type} (xs : List α) (f : α → Int) : xs.map (fun q => D.int (f q)) = (xs.map f).map D.int := by rw [List.map_map]; rfl
theorem ins_le (p : Pg) : p.ins.length ≤ 2 := by rcases ins_cases p with e | ⟨x, e⟩ | ⟨x, y, e⟩ <;> rw [e] <;> simp
def spParts (n : Nat) : DSp := fun ds O R _ => ∃ p : Pg, ds = [dP p] ∧ p.hgt < n ∧ R (.int p.psz) O
theorem ok_parts_of (T : Tx K mg) : ∀ n, FO_parts_of P w base T (n + 1) (spParts n)
  | 0 => none_left fun ds O R RE ⟨p, _, h, _⟩ => by omega
  | n + 1 => by
    refine fnd_parts_of T (fnUp (ok_innerO T) (by omega)) (ok_parts_of T n) (by walk_at "len") ?_
    rintro ds O R RE ⟨p, rfl, hn, hR⟩
    unfold g_parts_of
    walk_at "kf1"
    refine ⟨p, rfl, fun a ha => ?_⟩
    try dsimp only
    rw [rFrz_u ha]
    walk_at "kf1"
    have hln := ins_le p
    refine lcA_map dP (fun q => .int q.psz) p.ins _ _ (sz_small (by simp only [List.length_nil]; omega)) ?_ ?_
    · intro q hq Q' hQ'
      have h4 := ins_hgt hq
      walk_at "kf1"
      exact ⟨q, rfl, by omega, hQ'⟩
    · rw [List.nil_append, lcMap_ints, rSum_m]
      walk_at "kf1"
      rw [psz_ins]
      exact hR
def spDeep (n : Nat) : DSp := fun ds O R _ => ∃ p : Pg, ds = [dP p] ∧ p.hgt < n ∧ R (.int p.hgt) O
theorem ok_deep_of (T : Tx K mg) : ∀ n, FO_deep_of P w base T (n + 1) (spDeep n)
  | 0 => none_left fun ds O R RE ⟨p, _, h, _⟩ => by omega
  | n + 1 => by
    refine fnd_deep_of T (fnUp (ok_innerO T) (by omega)) (ok_deep_of T n) (by walk_at "len") ?_
    rintro ds O R RE ⟨p, rfl, hn, hR⟩
    unfold g_deep_of
    walk_at "kf1"
    refine ⟨p, rfl, fun a ha => ?_⟩
    try dsimp only
    rw [rFrz_u ha]
    walk_at "kf1"
    have hln := ins_le p
    refine lcA_map dP (fun q => .int (1 + q.hgt)) p.ins _ _ (sz_small (by simp only [List.length_nil]; omega)) ?_ ?_
    · intro q hq Q' hQ'
      have h4 := ins_hgt hq
      walk_at "kf1"
      exact ⟨q, rfl, by omega, hQ'⟩
    · rw [List.nil_append, lcMap_ints, rMaxD_l, hgt_ins]
      exact hR
def spNameCount (n : Nat) : DSp := fun ds O R _ => ∃ (p : Pg) (x : Str), ds = [dP p, .str x] ∧ p.hgt < n ∧ p.sok = true ∧ PyData.strOk x = true ∧ R (.int (nmc p x)) O
theorem ok_name_count (T : Tx K mg) : ∀ n, FO_name_count P w base T (n + 1) (spNameCount n)
  | 0 => none_left fun ds O R RE ⟨p, x, _, h, _⟩ => by omega
  | n + 1 => by
    refine fnd_name_count T (fnUp (ok_innerO T) (by omega)) (ok_name_count T n) (by walk_at "len") ?_
    rintro ds O R RE ⟨p, x, rfl, hn, hs, hx, hR⟩
    unfold g_name_count
    refine gSeq_step ?_
    walk_at "kf1"
    walk_at "tg"
    rw [rEq_nm hs hx]
    walk_at "kf1"
    by_cases c : p = .nm x
    · rw [if_pos c]
      subst c
      simpa [nmc] using hR
    · rw [if_neg c]
      try dsimp only
      walk_at "kf1"
      refine ⟨p, rfl, fun a ha => ?_⟩
      try dsimp only
      rw [rFrz_u ha]
      walk_at "kf1"
      have hln := ins_le p
      refine lcA_map dP (fun q => .int (nmc q x)) p.ins _ _ (sz_small (by simp only [List.length_nil]; omega)) ?_ ?_
      · intro q hq Q' hQ'
        have h3 := ins_ok hq hs
        have h4 := ins_hgt hq
        walk_at "kf1"
        exact ⟨q, x, rfl, by omega, h3.1, hx, hQ'⟩
      · rw [List.nil_append, lcMap_ints, rSum_m, nmc_ins p x c]
        exact hR
theorem nmc_le (x : Str) : ∀ p : Pg, nmc p x ≤ p.psz
  | .nm y => by simp only [nmc, Pg.psz]; split <;> omega
  | .thing => by simp [nmc]
  | .take y k b => by have := nmc_le x b; simp only [nmc, Pg.psz]; omega
  | .give f a => by have := nmc_le x f; have := nmc_le x a; simp only [nmc, Pg.psz]; omega
  | .pair f a => by have := nmc_le x f; have := nmc_le x a; simp only [nmc, Pg.psz]; omega
  | .first b => by have := nmc_le x b; simp only [nmc, Pg.psz]; omega
  | .second b => by have := nmc_le x b; simp only [nmc, Pg.psz]; omega
def spPtc (n : Nat) : DSp := fun ds O R _ => ∃ p q : Pg, ds = [dP p, dP q] ∧ p.hgt < n ∧ q.hgt < n ∧ q.can = true ∧ q.sok = true ∧ q.psz ≤ 4194304 ∧ R (.int (ptc p q)) O
theorem ok_ptc (T : Tx K mg) (n : Nat) : FO_parts_that_come P w base T (n + 4) (spPtc n) := by
  refine fnd_parts_that_come T (fnUp (ok_parts_of T n) (by omega)) (ok_what_comes T n) (fnUp (ok_name_count T n) (by omega)) (by walk_at "len") ?_
  rintro ds O R RE ⟨p, q, rfl, hp, hq, hc, hs, hz, hR⟩
  unfold g_parts_that_come
  refine gSeq_step ?_
  walk_at "kf1"
  refine ⟨p, rfl, hp, ?_⟩
  refine ⟨q, rfl, hq, ?_⟩
  try dsimp only
  walk_at "kf1"
  cases q with
  | give f a =>
    cases f <;> first | (simp [Pg.can, Pg.isTake] at hc; done) | skip
    rename_i x k b
    simp only [Pg.hgt, Pg.sok, Pg.psz, Bool.and_eq_true] at hq hs hz
    simp only [ptc] at hR
    simp only [dP] at hR ⊢
    refine gSeq_step ?_
    walk_at "kf1"
    walk_at "tg"
    walk_at "kf1"
    refine gSeq_step ?_
    walk_at "kf1"
    refine ⟨b, rfl, by omega, ?_⟩
    walk_at "kf1"
    refine ⟨b, x, rfl, by omega, hs.1.2, hs.1.1.1, ?_⟩
    walk_at "kf1"
    refine ⟨a, rfl, by omega, ?_⟩
    have h1 := nmc_le x b
    have h2 := a.psz_pos
    walk_at "kf1"
    refine ⟨cm_big (by omega) (by omega), ?_⟩
    walk_at "kf1"
    exact hR
  | first f =>
    cases f <;> first | (simp [Pg.can, Pg.isPair] at hc; done) | skip
    rename_i b c
    have hh : (wc (.first (.pair b c))).hgt < n := by simp only [Pg.hgt] at hq; simp only [wc]; omega
    simp only [ptc] at hR
    have call : ∀ (R' : VD) (RE' : XD), R' (dP (wc (.first (.pair b c)))) O → spWC n [dP (.first (.pair b c))] O R' RE' := fun R' RE' h => ⟨_, rfl, hc, hq, hs, h⟩
    simp only [dP] at hR call ⊢
    refine gSeq_step ?_
    walk_at "kf1"
    walk_at "tg"
    walk_at "kf1"
    refine call _ _ ?_
    refine ⟨_, rfl, hh, ?_⟩
    walk_at "kf1"
    exact hR
  | second f =>
    cases f <;> first | (simp [Pg.can, Pg.isPair] at hc; done) | skip
    rename_i b c
    have hh : (wc (.second (.pair b c))).hgt < n := by simp only [Pg.hgt] at hq; simp only [wc]; omega
    simp only [ptc] at hR
    have call : ∀ (R' : VD) (RE' : XD), R' (dP (wc (.second (.pair b c)))) O → spWC n [dP (.second (.pair b c))] O R' RE' := fun R' RE' h => ⟨_, rfl, hc, hq, hs, h⟩
    simp only [dP] at hR call ⊢
    refine gSeq_step ?_
    walk_at "kf1"
    walk_at "tg"
    walk_at "kf1"
    refine call _ _ ?_
    refine ⟨_, rfl, hh, ?_⟩
    walk_at "kf1"
    exact hR
  | _ => simp [Pg.can] at hc
end
end Kf
namespace Kf
open PySem PySem.Spec L2
open PyProof.Rows hiding St
local macro_rules | `(tactic| walk_at "kf") => `(tactic| simp (config := { failIfUnchanged := false }) only [startD, ap_fiEnumT, asT1_t, ap_fKGet, asStr_s, ap_fKIn, ap_fKIx, ap_gAsgL, rUnl_l, ap_fiRng3, asR3_i, rSplitO_s, ap_fOrL, rOrL_l, ap_fLcK, ap_gForK, ap_fMaxD, rMaxD_l, rMaxL_l, ap_fCallXD, ap_gForE, asLE_l, ap_fFrz, ap_fDicO, ap_fDGet, ap_fDGet1, ap_fDGet2, ap_gDPut, ap_fIsiT, ap_gForR, rRep_l, isT_i, isT_s, isT_b, isT_n, isT_t, isT_l, ap_gSeq, ap_gIf, ap_gRet, ap_gNext, ap_gSet, ap_gAsg, ap_gDrop, ap_gRetF, ap_gRetN, ap_gFor, ap_gSetIx, ap_gBreak, ap_fRev, ap_fiRevR, asIR_i, rRev_l, ap_fCallX, ap_gRaise, ap_gTry, ap_gTryAs, ap_gNever, ap_fEdic, ap_fTest, ap_fOp, ap_fVar, envGet_s, patGet_s, ap_fC, ap_fCB, ap_fCons, ap_fNil, ap_fCall, ap_fAnd, ap_fOr, ap_fNot, ap_fAndV, ap_fOrV, ap_fNotV, ap_fIf, ap_fTup, ap_fLst, ap_fLstO, ap_fChain, ap_fUn, ap_fBM, ap_fBM0, ap_fPool, rPool_i, ap_fSl, ap_fPart, ap_fNoPart, asI_i, rSl_l, ap_fiRng1, ap_fiRng2, ap_fiList, ap_fiTup, ap_fiStr, ap_fiEnum, ap_fiZip, ap_fiRev, asL_l, asT_t, asSg_s, asR1_i, asR2_i, asL1_l, asL2_l, ap_fLc, ap_fLcO, ap_fYes, wipeD, lcD, isi_i_int, isi_i_bool, isi_i_str, isi_i_tuple, isi_i_list, isi_i_dict, isi_b_int, isi_b_bool, isi_b_str, isi_b_tuple, isi_b_list, isi_b_dict, isi_s_int, isi_s_bool, isi_s_str, isi_s_tuple, isi_s_list, isi_s_dict, isi_t_int, isi_t_bool, isi_t_str, isi_t_tuple, isi_t_list, isi_t_dict, isi_l_int, isi_l_bool, isi_l_str, isi_l_tuple, isi_l_list, isi_l_dict, isi_n_int, isi_n_bool, isi_n_str, isi_n_tuple, isi_n_list, isi_n_dict, isi_d_int, isi_d_bool, isi_d_str, isi_d_tuple, isi_d_list, isi_d_dict,
  deref_tup, deref_lst, deref_int, deref_str, deref_bl, deref_non, deref_scr, rLt_i, rLt_s, rLe_i, rLe_s, rInts_i, rInts0_i, rAdd_i, rAdd_s, rAdd_l, rAdd_t, rCatO_l, rNeg_i, rLen_t, rLen_l, rLen_c, rLen_s, rMax_i, rMin_i, rInt_i, rInt_b, rDivmod_i, ap_gAug, rStr_i, rList_l, rList_t, rListO_l, rListO_t, rTup_l, rTup_t,
  rIx_t0, rIx_t1, rIx_t2, rIx_t3, rIx_l0, rIx_l1, rIx_l2, rIsN_x, isNon_t, isNon_n, isNon_i, isNon_s, isNon_l, rEq_i, rEq_b, rEq_i2, rEq_b2, rJoin_m, rSplit_s, tyOk_l, tyOk_s, patD_nm, patD_tp, patDs_nil, patDs_cons, Option.bind_some, notX, notX',
  List.map_cons, List.map_nil, List.length_cons, List.length_nil, List.cons_append, List.nil_append, List.append_nil, List.replicate, List.getElem?_cons_zero, List.getElem?_cons_succ, List.set_cons_zero, List.set_cons_succ, updO_same, updO_updO,
  Nat.reduceSub, Nat.reduceAdd, Nat.reduceLeDiff, Nat.zero_add, Int.cast_ofNat_Int, Int.natCast_zero, Int.natCast_one, Int.reduceLT, Int.reduceLE, Int.reduceEq, Int.reduceAdd, Int.reduceSub, Int.reduceNeg, decide_true, decide_false, if_true, if_false, Bool.false_eq_true, eq_self, reduceIte, Bool.true_eq_false, decide_eq_true_eq, Bool.not_true, Bool.not_false, Bool.not_eq_true', decide_eq_false_iff_not, exists_eq_left', exists_eq_left, D.bl.injEq, true_and, and_true, not_true_eq_false, not_false_eq_true])
local macro_rules | `(tactic| walk_at "len") => `(tactic| (intro ds O R RE h; first | (obtain ⟨e, _⟩ := h; subst e; rfl) | (obtain ⟨_, e, _⟩ := h; subst e; rfl) | (obtain ⟨_, _, e, _⟩ := h; subst e; rfl) | (obtain ⟨_, _, _, e, _⟩ := h; subst e; rfl) | (obtain ⟨_, _, _, _, e, _⟩ := h; subst e; rfl) | (obtain ⟨_, _, _, _, _, e, _⟩ := h; subst e; rfl) | (obtain ⟨_, _, _, _, _, _, e, _⟩ := h; subst e; rfl) | (obtain ⟨_, _, _, _, _, _, _, e, _⟩ := h; subst e; rfl) | (obtain ⟨_, _, _, _, _, _, _, _, e, _⟩ := h; subst e; rfl) | (obtain ⟨_, _, _, _, _, _, _, _, _, e, _⟩ := h; subst e; rfl)))
local macro_rules | `(tactic| walk_at "kf1") => `(tactic| simp (config := { failIfUnchanged := false }) only [startD, ap_fiEnumT, asT1_t, ap_fKGet, asStr_s, ap_fKIn, ap_fKIx, ap_gAsgL, rUnl_l, ap_fiRng3, asR3_i, rSplitO_s, ap_fOrL, rOrL_l, ap_fLcK, ap_gForK, ap_fMaxD, rMaxD_l, rMaxL_l, ap_fCallXD, ap_gForE, asLE_l, ap_fFrz, ap_fDicO, ap_fDGet, ap_fDGet1, ap_fDGet2, ap_gDPut, ap_fIsiT, ap_gForR, rRep_l, isT_i, isT_s, isT_b, isT_n, isT_t, isT_l, ap_gIf, ap_gRet, ap_gNext, ap_gSet, ap_gAsg, ap_gDrop, ap_gRetF, ap_gRetN, ap_gFor, ap_gSetIx, ap_gBreak, ap_fRev, ap_fiRevR, asIR_i, rRev_l, ap_fCallX, ap_gRaise, ap_gTry, ap_gTryAs, ap_gNever, ap_fEdic, ap_fTest, ap_fOp, ap_fVar, envGet_s, patGet_s, ap_fC, ap_fCB, ap_fCons, ap_fNil, ap_fCall, ap_fAnd, ap_fOr, ap_fNot, ap_fAndV, ap_fOrV, ap_fNotV, ap_fIf, ap_fTup, ap_fLst, ap_fLstO, ap_fChain, ap_fUn, ap_fBM, ap_fBM0, ap_fPool, rPool_i, ap_fSl, ap_fPart, ap_fNoPart, asI_i, rSl_l, ap_fiRng1, ap_fiRng2, ap_fiList, ap_fiTup, ap_fiStr, ap_fiEnum, ap_fiZip, ap_fiRev, asL_l, asT_t, asSg_s, asR1_i, asR2_i, asL1_l, asL2_l, ap_fLc, ap_fLcO, ap_fYes, wipeD, lcD, isi_i_int, isi_i_bool, isi_i_str, isi_i_tuple, isi_i_list, isi_i_dict, isi_b_int, isi_b_bool, isi_b_str, isi_b_tuple, isi_b_list, isi_b_dict, isi_s_int, isi_s_bool, isi_s_str, isi_s_tuple, isi_s_list, isi_s_dict, isi_t_int, isi_t_bool, isi_t_str, isi_t_tuple, isi_t_list, isi_t_dict, isi_l_int, isi_l_bool, isi_l_str, isi_l_tuple, isi_l_list, isi_l_dict, isi_n_int, isi_n_bool, isi_n_str, isi_n_tuple, isi_n_list, isi_n_dict, isi_d_int, isi_d_bool, isi_d_str, isi_d_tuple, isi_d_list, isi_d_dict,
  deref_tup, deref_lst, deref_int, deref_str, deref_bl, deref_non, deref_scr, rLt_i, rLt_s, rLe_i, rLe_s, rInts_i, rInts0_i, rAdd_i, rAdd_s, rAdd_l, rAdd_t, rCatO_l, rNeg_i, rLen_t, rLen_l, rLen_c, rLen_s, rMax_i, rMin_i, rInt_i, rInt_b, rDivmod_i, ap_gAug, rStr_i, rList_l, rList_t, rListO_l, rListO_t, rTup_l, rTup_t,
  rIx_t0, rIx_t1, rIx_t2, rIx_t3, rIx_l0, rIx_l1, rIx_l2, rIsN_x, isNon_t, isNon_n, isNon_i, isNon_s, isNon_l, rEq_i, rEq_b, rEq_i2, rEq_b2, rJoin_m, rSplit_s, tyOk_l, tyOk_s, patD_nm, patD_tp, patDs_nil, patDs_cons, Option.bind_some, notX, notX',
  List.map_cons, List.map_nil, List.length_cons, List.length_nil, List.cons_append, List.nil_append, List.append_nil, List.replicate, List.getElem?_cons_zero, List.getElem?_cons_succ, List.set_cons_zero, List.set_cons_succ, updO_same, updO_updO,
  Nat.reduceSub, Nat.reduceAdd, Nat.reduceLeDiff, Nat.zero_add, Int.cast_ofNat_Int, Int.natCast_zero, Int.natCast_one, Int.reduceLT, Int.reduceLE, Int.reduceEq, Int.reduceAdd, Int.reduceSub, Int.reduceNeg, decide_true, decide_false, if_true, if_false, Bool.false_eq_true, eq_self, reduceIte, Bool.true_eq_false, decide_eq_true_eq, Bool.not_true, Bool.not_false, Bool.not_eq_true', decide_eq_false_iff_not, exists_eq_left', exists_eq_left, D.bl.injEq, true_and, and_true, not_true_eq_false, not_false_eq_true])
section
variable {P : Program} {w : World} {K : PySem.W.Frag} {mg : Str → Option Value} {base : Heap}
local macro_rules | `(tactic| walk_at "tg") => `(tactic| simp (config := { failIfUnchanged := false }) only [te_name_take, te_name_give, te_name_pair, te_name_first, te_name_second, te_name_to, te_name_both, te_name_one, te_name_mark, te_name_name, te_name_thing, te_name_at, te_thing_take, te_thing_give, te_thing_pair, te_thing_first, te_thing_second, te_thing_to, te_thing_both, te_thing_one, te_thing_mark, te_thing_name, te_thing_thing, te_thing_at, te_take_take, te_take_give, te_take_pair, te_take_first, te_take_second, te_take_to, te_take_both, te_take_one, te_take_mark, te_take_name, te_take_thing, te_take_at, te_give_take, te_give_give, te_give_pair, te_give_first, te_give_second, te_give_to, te_give_both, te_give_one, te_give_mark, te_give_name, te_give_thing, te_give_at, te_pair_take, te_pair_give, te_pair_pair, te_pair_first, te_pair_second, te_pair_to, te_pair_both, te_pair_one, te_pair_mark, te_pair_name, te_pair_thing, te_pair_at, te_first_take, te_first_give, te_first_pair, te_first_first, te_first_second, te_first_to, te_first_both, te_first_one, te_first_mark, te_first_name, te_first_thing, te_first_at, te_second_take, te_second_give, te_second_pair, te_second_first, te_second_second, te_second_to, te_second_both, te_second_one, te_second_mark, te_second_name, te_second_thing, te_second_at, te_mark_take, te_mark_give, te_mark_pair, te_mark_first, te_mark_second, te_mark_to, te_mark_both, te_mark_one, te_mark_mark, te_mark_name, te_mark_thing, te_mark_at, te_one_take, te_one_give, te_one_pair, te_one_first, te_one_second, te_one_to, te_one_both, te_one_one, te_one_mark, te_one_name, te_one_thing, te_one_at, te_to_take, te_to_give, te_to_pair, te_to_first, te_to_second, te_to_to, te_to_both, te_to_one, te_to_mark, te_to_name, te_to_thing, te_to_at, te_both_take, te_both_give, te_both_pair, te_both_first, te_both_second, te_both_to, te_both_both, te_both_one, te_both_mark, te_both_name, te_both_thing, te_both_at, te_at_take, te_at_give, te_at_pair, te_at_first, te_at_second, te_at_to, te_at_both, te_at_one, te_at_mark, te_at_name, te_at_thing, te_at_at, ti4_name, ti4_thing, ti4_take, ti4_give, ti4_pair, ti4_first, ti4_second, ti2_name, ti2_thing, ti2_take, ti2_give, ti2_pair, ti2_first, ti2_second, szT_0, szT_1, szT_2, szT_3, szT_4, szT_5, szT_6, szT_7, szT_8, szT_9, szT_10, szT_11, szT_12, Bool.not_true, Bool.not_false, true_and])
def spCan : DSp := fun ds O R _ => ∃ p : Pg, ds = [dP p] ∧ R (.bl p.can) O
theorem ok_can (T : Tx K mg) : FO_can_step P w base T 1 spCan := by
  refine fnd_can_step T (by walk_at "len") ?_
  rintro ds O R RE ⟨p, rfl, hR⟩
  unfold g_can_step
  cases p with
  | give f a => cases f <;> simp only [dP, Pg.can, Pg.isTake] at hR ⊢ <;> walk_at "kf" <;> walk_at "tg" <;> walk_at "kf" <;> walk_at "tg" <;> exact hR
  | first f => cases f <;> simp only [dP, Pg.can, Pg.isPair] at hR ⊢ <;> walk_at "kf" <;> walk_at "tg" <;> walk_at "kf" <;> walk_at "tg" <;> walk_at "kf" <;> walk_at "tg" <;> exact hR
  | second f => cases f <;> simp only [dP, Pg.can, Pg.isPair] at hR ⊢ <;> walk_at "kf" <;> walk_at "tg" <;> walk_at "kf" <;> walk_at "tg" <;> walk_at "kf" <;> walk_at "tg" <;> exact hR
  | _ => simp only [dP, Pg.can] at hR ⊢ <;> walk_at "kf" <;> walk_at "tg" <;> walk_at "kf" <;> walk_at "tg" <;> walk_at "kf" <;> exact hR
def spPutF (n : Nat) : DSp := fun ds O R _ => ∃ (p : Pg) (f : Addr) (pl : List Int) (acc : List (List Int)), ds = [dP p, dI pl, .ref f] ∧ O f = some (.lst (acc.map dI)) ∧ p.hgt < n ∧ pl.length + p.hgt ≤ 1000 ∧ acc.length + (plc p pl).length ≤ 4194304 ∧ R .non (updO O f (.lst ((acc ++ plc p pl).map dI)))
theorem ok_putF (T : Tx K mg) : ∀ n, FO_put_places P w base T (n + 1) (spPutF n)
  | 0 => fnUp (none_left fun ds O R RE ⟨p, f, pl, acc, _, _, h, _⟩ => by omega) (Nat.zero_le _)
  | n + 1 => by
    refine fnd_put_places T (fnUp (ok_can T) (by omega)) (fnUp (ok_innerO T) (by omega)) (ok_putF T n) (by walk_at "len") ?_
    rintro ds O R RE ⟨p, f, pl, acc, rfl, hf, hn, hl, hx, hR⟩
    unfold g_put_places
    refine gSeq_step ?_
    walk_at "kf1"
    refine ⟨p, rfl, ?_⟩
    have hp := plc_eq p pl
    have rest : ∀ (acc1 : List (List Int)), acc1 = acc ++ (if p.can then [pl] else []) → ∀ O1 : Ow, O1 = updO O f (.lst (acc1.map dI)) →
        gFor (fiEnum (fCons (fFrz (fCall spInnerO (fCons (fVar 0) fNil))) fNil)) (.tp [(.nm 3), (.nm 4)]) (gDrop (fCall (spPutF n) (fCons (fVar 4) (fCons (fOp rAddD (fVar 1) (fLst (fCons (fVar 3) fNil))) (fCons (fVar 2) fNil))))) { nx := fun _ O' => R .non O', rt := R } [some (dP p), some (dI pl), some (.ref f), none, none] O1 := by
      rintro acc1 ea O1 rfl
      walk_at "kf1"
      refine ⟨p, rfl, fun fz hfz => ?_⟩
      dsimp only
      rw [rFrz_u hfz]
      walk_at "kf1"
      have call : ∀ (q : Pg) (i : Int) (ac : List (List Int)) (R' : VD) (RE' : XD), q ∈ p.ins → ac.length + (plc q (pl ++ [i])).length ≤ 4194304 → R' .non (updO O f (.lst ((ac ++ plc q (pl ++ [i])).map dI))) →
          spPutF n [dP q, .lst (pl.map .int ++ [.int i]), .ref f] (updO O f (.lst (ac.map dI))) R' RE' := by
        intro q i ac R' RE' hq hlen h
        have hgt := ins_hgt hq
        exact ⟨q, f, pl ++ [i], ac, by simp [dI], updO_same, by omega, by rw [List.length_append, List.length_singleton]; omega, hlen, by rw [updO_updO]; exact h⟩
      have lpl : ∀ {x : Pg}, x ∈ p.ins → (pl.map D.int).length + 1 ≤ sizeLine := fun hx => sz_21 (by rw [List.length_map]; have := ins_hgt hx; omega)
      have fin : ∀ rest : List (List Int), plc p pl = (if p.can then [pl] else []) ++ rest → R .non (updO O f (.lst ((acc1 ++ rest).map dI))) := fun rest e => by
        rw [e, ← List.append_assoc, ← ea] at hR
        exact hR
      have len : ∀ rest : List (List Int), plc p pl = (if p.can then [pl] else []) ++ rest → acc1.length + rest.length ≤ 4194304 := fun rest e => by
        rw [e, List.length_append] at hx
        rw [ea, List.length_append]
        omega
      rcases ins_cases p with hi | ⟨x, hi⟩ | ⟨x, y, hi⟩ <;> rw [hi] at hp ⊢ <;> simp only [List.map_cons, List.map_nil, enum0, enum1, enum2, forD, plcs, List.append_nil, Int.natCast_zero, show ((0 + 1 : Nat) : Int) = 1 from rfl] at hp ⊢
      · have := fin [] (by rw [hp, List.append_nil])
        simpa using this
      · have hxi : x ∈ p.ins := by rw [hi]; exact List.mem_cons_self
        have h1 := fin _ hp
        have h2 := len _ hp
        walk_at "kf1"
        walk_at "tg"
        refine ⟨lpl hxi, call x 0 _ _ _ hxi h2 ?_⟩
        exact h1
      · have hxi : x ∈ p.ins := by rw [hi]; exact List.mem_cons_self
        have hyi : y ∈ p.ins := by rw [hi]; exact List.mem_cons_of_mem _ List.mem_cons_self
        have h1 := fin _ hp
        have h2 := len _ hp
        rw [List.length_append] at h2
        walk_at "kf1"
        walk_at "tg"
        refine ⟨lpl hxi, call x 0 _ _ _ hxi (by omega) ?_⟩
        try dsimp only
        walk_at "kf1"
        walk_at "tg"
        refine ⟨lpl hyi, call y 1 _ _ _ hyi (by rw [List.length_append]; omega) ?_⟩
        rw [List.append_assoc]
        exact h1
    cases hc : p.can with
    | true =>
      rw [hc] at rest
      walk_at "kf1"
      refine ⟨tyOk_r hf, ?_⟩
      rw [rApp_r hf]
      refine ⟨Nat.lt_of_lt_of_le (show (acc.map dI).length < 4194305 by rw [List.length_map]; omega) (by decide), ?_⟩
      exact rest (acc ++ [pl]) rfl _ (by rw [List.map_append]; rfl)
    | false =>
      rw [hc] at rest
      walk_at "kf1"
      refine rest acc (by simp) _ ?_
      funext b
      by_cases e : b = f
      · rw [e, updO_same, hf]
      · rw [updO_ne e]
def spStepsF : DSp := fun ds O R _ => ∃ p : Pg, ds = [dP p] ∧ p.hgt ≤ 100 ∧ (plc p []).length ≤ 4194304 ∧ R (.lst ((plc p []).map dI)) O
theorem ok_stepsF (T : Tx K mg) : FO_step_places P w base T 103 spStepsF := by
  refine fnd_step_places T (ok_putF T 101) (by walk_at "len") ?_
  rintro ds O R RE ⟨p, rfl, hh, hz, hR⟩
  unfold g_step_places
  refine gSeq_step ?_
  walk_at "kf1"
  walk_at "tg"
  intro f hf
  walk_at "kf1"
  refine gSeq_step ?_
  walk_at "kf1"
  walk_at "tg"
  refine ⟨p, f, [], [], rfl, updO_same, by omega, by simp only [List.length_nil]; omega, by simp only [List.length_nil]; omega, ?_⟩
  rw [updO_updO, List.nil_append]
  try dsimp only
  walk_at "kf1"
  rw [delO_updO hf]
  exact hR
end
end Kf
namespace Kf
open PySem PySem.Spec L2
open PyProof.Rows hiding St
local macro_rules | `(tactic| walk_at "kf") => `(tactic| simp (config := { failIfUnchanged := false }) only [startD, ap_fiEnumT, asT1_t, ap_fKGet, asStr_s, ap_fKIn, ap_fKIx, ap_gAsgL, rUnl_l, ap_fiRng3, asR3_i, rSplitO_s, ap_fOrL, rOrL_l, ap_fLcK, ap_gForK, ap_fMaxD, rMaxD_l, rMaxL_l, ap_fCallXD, ap_gForE, asLE_l, ap_fFrz, ap_fDicO, ap_fDGet, ap_fDGet1, ap_fDGet2, ap_gDPut, ap_fIsiT, ap_gForR, rRep_l, isT_i, isT_s, isT_b, isT_n, isT_t, isT_l, ap_gSeq, ap_gIf, ap_gRet, ap_gNext, ap_gSet, ap_gAsg, ap_gDrop, ap_gRetF, ap_gRetN, ap_gFor, ap_gSetIx, ap_gBreak, ap_fRev, ap_fiRevR, asIR_i, rRev_l, ap_fCallX, ap_gRaise, ap_gTry, ap_gTryAs, ap_gNever, ap_fEdic, ap_fTest, ap_fOp, ap_fVar, envGet_s, patGet_s, ap_fC, ap_fCB, ap_fCons, ap_fNil, ap_fCall, ap_fAnd, ap_fOr, ap_fNot, ap_fAndV, ap_fOrV, ap_fNotV, ap_fIf, ap_fTup, ap_fLst, ap_fLstO, ap_fChain, ap_fUn, ap_fBM, ap_fBM0, ap_fPool, rPool_i, ap_fSl, ap_fPart, ap_fNoPart, asI_i, rSl_l, ap_fiRng1, ap_fiRng2, ap_fiList, ap_fiTup, ap_fiStr, ap_fiEnum, ap_fiZip, ap_fiRev, asL_l, asT_t, asSg_s, asR1_i, asR2_i, asL1_l, asL2_l, ap_fLc, ap_fLcO, ap_fYes, wipeD, lcD, isi_i_int, isi_i_bool, isi_i_str, isi_i_tuple, isi_i_list, isi_i_dict, isi_b_int, isi_b_bool, isi_b_str, isi_b_tuple, isi_b_list, isi_b_dict, isi_s_int, isi_s_bool, isi_s_str, isi_s_tuple, isi_s_list, isi_s_dict, isi_t_int, isi_t_bool, isi_t_str, isi_t_tuple, isi_t_list, isi_t_dict, isi_l_int, isi_l_bool, isi_l_str, isi_l_tuple, isi_l_list, isi_l_dict, isi_n_int, isi_n_bool, isi_n_str, isi_n_tuple, isi_n_list, isi_n_dict, isi_d_int, isi_d_bool, isi_d_str, isi_d_tuple, isi_d_list, isi_d_dict,
  deref_tup, deref_lst, deref_int, deref_str, deref_bl, deref_non, deref_scr, rLt_i, rLt_s, rLe_i, rLe_s, rInts_i, rInts0_i, rAdd_i, rAdd_s, rAdd_l, rAdd_t, rCatO_l, rNeg_i, rLen_t, rLen_l, rLen_c, rLen_s, rMax_i, rMin_i, rInt_i, rInt_b, rDivmod_i, ap_gAug, rStr_i, rList_l, rList_t, rListO_l, rListO_t, rTup_l, rTup_t,
  rIx_t0, rIx_t1, rIx_t2, rIx_t3, rIx_l0, rIx_l1, rIx_l2, rIsN_x, isNon_t, isNon_n, isNon_i, isNon_s, isNon_l, rEq_i, rEq_b, rEq_i2, rEq_b2, rJoin_m, rSplit_s, tyOk_l, tyOk_s, patD_nm, patD_tp, patDs_nil, patDs_cons, Option.bind_some, notX, notX',
  List.map_cons, List.map_nil, List.length_cons, List.length_nil, List.cons_append, List.nil_append, List.append_nil, List.replicate, List.getElem?_cons_zero, List.getElem?_cons_succ, List.set_cons_zero, List.set_cons_succ, updO_same, updO_updO,
  Nat.reduceSub, Nat.reduceAdd, Nat.reduceLeDiff, Nat.zero_add, Int.cast_ofNat_Int, Int.natCast_zero, Int.natCast_one, Int.reduceLT, Int.reduceLE, Int.reduceEq, Int.reduceAdd, Int.reduceSub, Int.reduceNeg, decide_true, decide_false, if_true, if_false, Bool.false_eq_true, eq_self, reduceIte, Bool.true_eq_false, decide_eq_true_eq, Bool.not_true, Bool.not_false, Bool.not_eq_true', decide_eq_false_iff_not, exists_eq_left', exists_eq_left, D.bl.injEq, true_and, and_true, not_true_eq_false, not_false_eq_true])
local macro_rules | `(tactic| walk_at "len") => `(tactic| (intro ds O R RE h; first | (obtain ⟨e, _⟩ := h; subst e; rfl) | (obtain ⟨_, e, _⟩ := h; subst e; rfl) | (obtain ⟨_, _, e, _⟩ := h; subst e; rfl) | (obtain ⟨_, _, _, e, _⟩ := h; subst e; rfl) | (obtain ⟨_, _, _, _, e, _⟩ := h; subst e; rfl) | (obtain ⟨_, _, _, _, _, e, _⟩ := h; subst e; rfl) | (obtain ⟨_, _, _, _, _, _, e, _⟩ := h; subst e; rfl) | (obtain ⟨_, _, _, _, _, _, _, e, _⟩ := h; subst e; rfl) | (obtain ⟨_, _, _, _, _, _, _, _, e, _⟩ := h; subst e; rfl) | (obtain ⟨_, _, _, _, _, _, _, _, _, e, _⟩ := h; subst e; rfl)))
local macro_rules | `(tactic| walk_at "kf1") => `(tactic| simp (config := { failIfUnchanged := false }) only [startD, ap_fiEnumT, asT1_t, ap_fKGet, asStr_s, ap_fKIn, ap_fKIx, ap_gAsgL, rUnl_l, ap_fiRng3, asR3_i, rSplitO_s, ap_fOrL, rOrL_l, ap_fLcK, ap_gForK, ap_fMaxD, rMaxD_l, rMaxL_l, ap_fCallXD, ap_gForE, asLE_l, ap_fFrz, ap_fDicO, ap_fDGet, ap_fDGet1, ap_fDGet2, ap_gDPut, ap_fIsiT, ap_gForR, rRep_l, isT_i, isT_s, isT_b, isT_n, isT_t, isT_l, ap_gIf, ap_gRet, ap_gNext, ap_gSet, ap_gAsg, ap_gDrop, ap_gRetF, ap_gRetN, ap_gFor, ap_gSetIx, ap_gBreak, ap_fRev, ap_fiRevR, asIR_i, rRev_l, ap_fCallX, ap_gRaise, ap_gTry, ap_gTryAs, ap_gNever, ap_fEdic, ap_fTest, ap_fOp, ap_fVar, envGet_s, patGet_s, ap_fC, ap_fCB, ap_fCons, ap_fNil, ap_fCall, ap_fAnd, ap_fOr, ap_fNot, ap_fAndV, ap_fOrV, ap_fNotV, ap_fIf, ap_fTup, ap_fLst, ap_fLstO, ap_fChain, ap_fUn, ap_fBM, ap_fBM0, ap_fPool, rPool_i, ap_fSl, ap_fPart, ap_fNoPart, asI_i, rSl_l, ap_fiRng1, ap_fiRng2, ap_fiList, ap_fiTup, ap_fiStr, ap_fiEnum, ap_fiZip, ap_fiRev, asL_l, asT_t, asSg_s, asR1_i, asR2_i, asL1_l, asL2_l, ap_fLc, ap_fLcO, ap_fYes, wipeD, lcD, isi_i_int, isi_i_bool, isi_i_str, isi_i_tuple, isi_i_list, isi_i_dict, isi_b_int, isi_b_bool, isi_b_str, isi_b_tuple, isi_b_list, isi_b_dict, isi_s_int, isi_s_bool, isi_s_str, isi_s_tuple, isi_s_list, isi_s_dict, isi_t_int, isi_t_bool, isi_t_str, isi_t_tuple, isi_t_list, isi_t_dict, isi_l_int, isi_l_bool, isi_l_str, isi_l_tuple, isi_l_list, isi_l_dict, isi_n_int, isi_n_bool, isi_n_str, isi_n_tuple, isi_n_list, isi_n_dict, isi_d_int, isi_d_bool, isi_d_str, isi_d_tuple, isi_d_list, isi_d_dict,
  deref_tup, deref_lst, deref_int, deref_str, deref_bl, deref_non, deref_scr, rLt_i, rLt_s, rLe_i, rLe_s, rInts_i, rInts0_i, rAdd_i, rAdd_s, rAdd_l, rAdd_t, rCatO_l, rNeg_i, rLen_t, rLen_l, rLen_c, rLen_s, rMax_i, rMin_i, rInt_i, rInt_b, rDivmod_i, ap_gAug, rStr_i, rList_l, rList_t, rListO_l, rListO_t, rTup_l, rTup_t,
  rIx_t0, rIx_t1, rIx_t2, rIx_t3, rIx_l0, rIx_l1, rIx_l2, rIsN_x, isNon_t, isNon_n, isNon_i, isNon_s, isNon_l, rEq_i, rEq_b, rEq_i2, rEq_b2, rJoin_m, rSplit_s, tyOk_l, tyOk_s, patD_nm, patD_tp, patDs_nil, patDs_cons, Option.bind_some, notX, notX',
  List.map_cons, List.map_nil, List.length_cons, List.length_nil, List.cons_append, List.nil_append, List.append_nil, List.replicate, List.getElem?_cons_zero, List.getElem?_cons_succ, List.set_cons_zero, List.set_cons_succ, updO_same, updO_updO,
  Nat.reduceSub, Nat.reduceAdd, Nat.reduceLeDiff, Nat.zero_add, Int.cast_ofNat_Int, Int.natCast_zero, Int.natCast_one, Int.reduceLT, Int.reduceLE, Int.reduceEq, Int.reduceAdd, Int.reduceSub, Int.reduceNeg, decide_true, decide_false, if_true, if_false, Bool.false_eq_true, eq_self, reduceIte, Bool.true_eq_false, decide_eq_true_eq, Bool.not_true, Bool.not_false, Bool.not_eq_true', decide_eq_false_iff_not, exists_eq_left', exists_eq_left, D.bl.injEq, true_and, and_true, not_true_eq_false, not_false_eq_true])
section
variable {P : Program} {w : World} {K : PySem.W.Frag} {mg : Str → Option Value} {base : Heap}
local macro_rules | `(tactic| walk_at "tg") => `(tactic| simp (config := { failIfUnchanged := false }) only [te_name_take, te_name_give, te_name_pair, te_name_first, te_name_second, te_name_to, te_name_both, te_name_one, te_name_mark, te_name_name, te_name_thing, te_name_at, te_thing_take, te_thing_give, te_thing_pair, te_thing_first, te_thing_second, te_thing_to, te_thing_both, te_thing_one, te_thing_mark, te_thing_name, te_thing_thing, te_thing_at, te_take_take, te_take_give, te_take_pair, te_take_first, te_take_second, te_take_to, te_take_both, te_take_one, te_take_mark, te_take_name, te_take_thing, te_take_at, te_give_take, te_give_give, te_give_pair, te_give_first, te_give_second, te_give_to, te_give_both, te_give_one, te_give_mark, te_give_name, te_give_thing, te_give_at, te_pair_take, te_pair_give, te_pair_pair, te_pair_first, te_pair_second, te_pair_to, te_pair_both, te_pair_one, te_pair_mark, te_pair_name, te_pair_thing, te_pair_at, te_first_take, te_first_give, te_first_pair, te_first_first, te_first_second, te_first_to, te_first_both, te_first_one, te_first_mark, te_first_name, te_first_thing, te_first_at, te_second_take, te_second_give, te_second_pair, te_second_first, te_second_second, te_second_to, te_second_both, te_second_one, te_second_mark, te_second_name, te_second_thing, te_second_at, te_mark_take, te_mark_give, te_mark_pair, te_mark_first, te_mark_second, te_mark_to, te_mark_both, te_mark_one, te_mark_mark, te_mark_name, te_mark_thing, te_mark_at, te_one_take, te_one_give, te_one_pair, te_one_first, te_one_second, te_one_to, te_one_both, te_one_one, te_one_mark, te_one_name, te_one_thing, te_one_at, te_to_take, te_to_give, te_to_pair, te_to_first, te_to_second, te_to_to, te_to_both, te_to_one, te_to_mark, te_to_name, te_to_thing, te_to_at, te_both_take, te_both_give, te_both_pair, te_both_first, te_both_second, te_both_to, te_both_both, te_both_one, te_both_mark, te_both_name, te_both_thing, te_both_at, te_at_take, te_at_give, te_at_pair, te_at_first, te_at_second, te_at_to, te_at_both, te_at_one, te_at_mark, te_at_name, te_at_thing, te_at_at, ti4_name, ti4_thing, ti4_take, ti4_give, ti4_pair, ti4_first, ti4_second, ti2_name, ti2_thing, ti2_take, ti2_give, ti2_pair, ti2_first, ti2_second, szT_0, szT_1, szT_2, szT_3, szT_4, szT_5, szT_6, szT_7, szT_8, szT_9, szT_10, szT_11, szT_12, Bool.not_true, Bool.not_false, true_and])
theorem partAt_ok : ∀ (pl : List Int) (p q : Pg), partAt p pl = some q → p.sok = true → q.sok = true ∧ q.dpt ≤ p.dpt ∧ q.hgt ≤ p.hgt
  | [], p, q, h, hs => by
    simp only [partAt, Option.some.injEq] at h
    subst h
    exact ⟨hs, by omega, by omega⟩
  | i :: r, p, q, h, hs => by
    obtain ⟨c, h0, h1, h2, h3, h4, h5, h6⟩ := partAt_cons h
    have hc := ins_ok h4 hs
    have hh := ins_hgt h4
    have ih := partAt_ok r c q h5 hc.1
    exact ⟨ih.1, by omega, by omega⟩
theorem wc_ok {q : Pg} (hc : q.can = true) (hs : q.sok = true) : (wc q).sok = true ∧ (wc q).dpt ≤ 2 * q.dpt ∧ (wc q).hgt ≤ 2 * q.hgt := by
  cases q with
  | give f a =>
    cases f <;> first | (simp [Pg.can, Pg.isTake] at hc; done) | skip
    rename_i x k b
    simp only [Pg.sok, Bool.and_eq_true] at hs
    have := wgiven_ok (x := x) hs.2 b hs.1.2
    simp only [wc, Pg.dpt, Pg.hgt]
    exact ⟨this.1, by omega, by omega⟩
  | first f =>
    cases f <;> first | (simp [Pg.can, Pg.isPair] at hc; done) | skip
    simp only [Pg.sok, Bool.and_eq_true] at hs
    simp only [wc, Pg.dpt, Pg.hgt]
    exact ⟨hs.1, by omega, by omega⟩
  | second f =>
    cases f <;> first | (simp [Pg.can, Pg.isPair] at hc; done) | skip
    simp only [Pg.sok, Bool.and_eq_true] at hs
    simp only [wc, Pg.dpt, Pg.hgt]
    exact ⟨hs.2, by omega, by omega⟩
  | _ => simp [Pg.can] at hc
def spDone : DSp := fun ds O R _ => ∃ (p : Pg) (x : D) (pl : List Int), ds = [dP p, x] ∧ deref O x = dI pl ∧ Vd p pl ∧ p.hgt ≤ 100 ∧ pl.length ≤ 100 ∧ p.sok = true ∧ (stepP p pl).hgt ≤ 200 ∧ R (dP (tidy (stepP p pl) [])) O
theorem ok_done (T : Tx K mg) : FO_done_at P w base T 207 spDone := by
  refine fnd_done_at T (ok_tidied T) (fnUp (ok_with_part T 101) (by omega)) (fnUp (ok_what_comes T 101) (by omega)) (fnUp (ok_part_at T) (by omega)) (by walk_at "len") ?_
  rintro ds O R RE ⟨p, x, pl, rfl, hx, ⟨q, hq, hc⟩, hh, hpl, hs, hsh, hR⟩
  unfold g_done_at
  have h1 := partAt_ok pl p q hq hs
  have h2 := wc_ok hc h1.1
  have h3 := withPart_ok h2.1 p pl hs
  have es : stepP p pl = withPart p pl (wc q) := by simp only [stepP, hq]
  rw [es] at hR hsh
  walk_at "kf"
  refine ⟨p, q, x, pl, rfl, hx, hq, ?_⟩
  refine ⟨q, rfl, hc, by omega, h1.1, ?_⟩
  refine ⟨p, q, wc q, x, pl, rfl, hx, hq, by omega, hs, h2.1, ?_⟩
  exact ⟨_, rfl, by omega, h3.1, hR⟩
/-- picks as they are handed in -/
def PkOk (pk : D) (pks : List Int) : Prop := (pk = .non ∧ pks = []) ∨ pk = .lst (pks.map .int)
def spNextF : DSp := fun ds O R _ => ∃ (qs : List (List Int)) (pk : D) (pks : List Int) (t : Nat), ds = [.lst (qs.map dI), pk, .int t] ∧ qs ≠ [] ∧ PkOk pk pks ∧ R (dI (qs.getD (pickN pks t qs.length) [])) O
theorem atI_dI {qs : List (List Int)} {k : Nat} (h : k < qs.length) : atI (qs.map dI) (k : Int) = some (dI (qs.getD k [])) := by
  refine atI_nat ?_
  rw [List.getElem?_map, List.getElem?_eq_getElem h, List.getD_eq_getElem?_getD, List.getElem?_eq_getElem h]
  rfl
theorem ok_nextF (T : Tx K mg) : FO_next_place P w base T 1 spNextF := by
  refine fnd_next_place T (by walk_at "len") ?_
  rintro ds O R RE ⟨qs, pk, pks, t, rfl, hqs, hpk, hR⟩
  unfold g_next_place
  have hl : 0 < qs.length := List.length_pos_iff.mpr hqs
  have h0 : pks = [] → rIxD (.lst (qs.map dI)) (.int 0) O R := fun e => by
    have := atI_dI (qs := qs) (k := 0) hl
    rw [rIx_l (show atI (qs.map dI) 0 = _ from this)]
    rw [e] at hR
    simpa [pickN] using hR
  refine gSeq_step ?_
  walk_at "kf1"
  rcases hpk with ⟨rfl, e⟩ | rfl
  · walk_at "kf1"
    exact h0 e
  · walk_at "kf1"
    walk_at "tg"
    rw [rEq_nilA (xs := pks.map D.int) rfl (isPys_ints _)]
    cases pks with
    | nil =>
      walk_at "kf1"
      exact h0 rfl
    | cons a r =>
      have hlen : (0 : Int) < ((a :: r).length : Nat) := by rw [List.length_cons]; omega
      simp only [List.map_cons, List.isEmpty_cons, Bool.false_xor]
      walk_at "kf1"
      rw [← List.map_cons (f := D.int), List.length_map]
      refine ⟨by simpa using hlen, ?_⟩
      have hk : t % (a :: r).length < (a :: r).length := Nat.mod_lt _ (by simp)
      have e1 : atI ((a :: r).map D.int) ((t : Int) % ((r.length + 1 : Nat) : Int)) = some (.int ((a :: r).getD (t % (a :: r).length) 0)) := by
        rw [show (t : Int) % ((r.length + 1 : Nat) : Int) = ((t % (a :: r).length : Nat) : Int) by rw [List.length_cons, Int.natCast_emod]]
        refine atI_nat ?_
        rw [List.getElem?_map, List.getElem?_eq_getElem hk, List.getD_eq_getElem?_getD, List.getElem?_eq_getElem hk]
        rfl
      rw [rIx_l e1]
      try dsimp only
      walk_at "kf1"
      rw [List.length_map]
      refine ⟨by omega, ?_⟩
      have hp := pickN_lt (pks := a :: r) (t := t) hl
      have hm : ((a :: r).getD (t % (a :: r).length) 0) % (qs.length : Int) = ((pickN (a :: r) t qs.length : Nat) : Int) := by
        have h1 := Int.emod_nonneg ((a :: r).getD (t % (a :: r).length) 0) (show (qs.length : Int) ≠ 0 by omega)
        unfold pickN
        rw [if_neg (by simp)]
        omega
      try dsimp only
      rw [List.length_cons] at hm
      rw [hm, rIx_l (atI_dI hp)]
      exact hR
end
end Kf
namespace Kf
open PySem PySem.Spec L2
open PyProof.Rows hiding St
local macro_rules | `(tactic| walk_at "kf") => `(tactic| simp (config := { failIfUnchanged := false }) only [startD, ap_fiEnumT, asT1_t, ap_fKGet, asStr_s, ap_fKIn, ap_fKIx, ap_gAsgL, rUnl_l, ap_fiRng3, asR3_i, rSplitO_s, ap_fOrL, rOrL_l, ap_fLcK, ap_gForK, ap_fMaxD, rMaxD_l, rMaxL_l, ap_fCallXD, ap_gForE, asLE_l, ap_fFrz, ap_fDicO, ap_fDGet, ap_fDGet1, ap_fDGet2, ap_gDPut, ap_fIsiT, ap_gForR, rRep_l, isT_i, isT_s, isT_b, isT_n, isT_t, isT_l, ap_gSeq, ap_gIf, ap_gRet, ap_gNext, ap_gSet, ap_gAsg, ap_gDrop, ap_gRetF, ap_gRetN, ap_gFor, ap_gSetIx, ap_gBreak, ap_fRev, ap_fiRevR, asIR_i, rRev_l, ap_fCallX, ap_gRaise, ap_gTry, ap_gTryAs, ap_gNever, ap_fEdic, ap_fTest, ap_fOp, ap_fVar, envGet_s, patGet_s, ap_fC, ap_fCB, ap_fCons, ap_fNil, ap_fCall, ap_fAnd, ap_fOr, ap_fNot, ap_fAndV, ap_fOrV, ap_fNotV, ap_fIf, ap_fTup, ap_fLst, ap_fLstO, ap_fChain, ap_fUn, ap_fBM, ap_fBM0, ap_fPool, rPool_i, ap_fSl, ap_fPart, ap_fNoPart, asI_i, rSl_l, ap_fiRng1, ap_fiRng2, ap_fiList, ap_fiTup, ap_fiStr, ap_fiEnum, ap_fiZip, ap_fiRev, asL_l, asT_t, asSg_s, asR1_i, asR2_i, asL1_l, asL2_l, ap_fLc, ap_fLcO, ap_fYes, wipeD, lcD, isi_i_int, isi_i_bool, isi_i_str, isi_i_tuple, isi_i_list, isi_i_dict, isi_b_int, isi_b_bool, isi_b_str, isi_b_tuple, isi_b_list, isi_b_dict, isi_s_int, isi_s_bool, isi_s_str, isi_s_tuple, isi_s_list, isi_s_dict, isi_t_int, isi_t_bool, isi_t_str, isi_t_tuple, isi_t_list, isi_t_dict, isi_l_int, isi_l_bool, isi_l_str, isi_l_tuple, isi_l_list, isi_l_dict, isi_n_int, isi_n_bool, isi_n_str, isi_n_tuple, isi_n_list, isi_n_dict, isi_d_int, isi_d_bool, isi_d_str, isi_d_tuple, isi_d_list, isi_d_dict,
  deref_tup, deref_lst, deref_int, deref_str, deref_bl, deref_non, deref_scr, rLt_i, rLt_s, rLe_i, rLe_s, rInts_i, rInts0_i, rAdd_i, rAdd_s, rAdd_l, rAdd_t, rCatO_l, rNeg_i, rLen_t, rLen_l, rLen_c, rLen_s, rMax_i, rMin_i, rInt_i, rInt_b, rDivmod_i, ap_gAug, rStr_i, rList_l, rList_t, rListO_l, rListO_t, rTup_l, rTup_t,
  rIx_t0, rIx_t1, rIx_t2, rIx_t3, rIx_l0, rIx_l1, rIx_l2, rIsN_x, isNon_t, isNon_n, isNon_i, isNon_s, isNon_l, rEq_i, rEq_b, rEq_i2, rEq_b2, rJoin_m, rSplit_s, tyOk_l, tyOk_s, patD_nm, patD_tp, patDs_nil, patDs_cons, Option.bind_some, notX, notX',
  List.map_cons, List.map_nil, List.length_cons, List.length_nil, List.cons_append, List.nil_append, List.append_nil, List.replicate, List.getElem?_cons_zero, List.getElem?_cons_succ, List.set_cons_zero, List.set_cons_succ, updO_same, updO_updO,
  Nat.reduceSub, Nat.reduceAdd, Nat.reduceLeDiff, Nat.zero_add, Int.cast_ofNat_Int, Int.natCast_zero, Int.natCast_one, Int.reduceLT, Int.reduceLE, Int.reduceEq, Int.reduceAdd, Int.reduceSub, Int.reduceNeg, decide_true, decide_false, if_true, if_false, Bool.false_eq_true, eq_self, reduceIte, Bool.true_eq_false, decide_eq_true_eq, Bool.not_true, Bool.not_false, Bool.not_eq_true', decide_eq_false_iff_not, exists_eq_left', exists_eq_left, D.bl.injEq, true_and, and_true, not_true_eq_false, not_false_eq_true])
local macro_rules | `(tactic| walk_at "len") => `(tactic| (intro ds O R RE h; first | (obtain ⟨e, _⟩ := h; subst e; rfl) | (obtain ⟨_, e, _⟩ := h; subst e; rfl) | (obtain ⟨_, _, e, _⟩ := h; subst e; rfl) | (obtain ⟨_, _, _, e, _⟩ := h; subst e; rfl) | (obtain ⟨_, _, _, _, e, _⟩ := h; subst e; rfl) | (obtain ⟨_, _, _, _, _, e, _⟩ := h; subst e; rfl) | (obtain ⟨_, _, _, _, _, _, e, _⟩ := h; subst e; rfl) | (obtain ⟨_, _, _, _, _, _, _, e, _⟩ := h; subst e; rfl) | (obtain ⟨_, _, _, _, _, _, _, _, e, _⟩ := h; subst e; rfl) | (obtain ⟨_, _, _, _, _, _, _, _, _, e, _⟩ := h; subst e; rfl)))
local macro_rules | `(tactic| walk_at "kf1") => `(tactic| simp (config := { failIfUnchanged := false }) only [startD, ap_fiEnumT, asT1_t, ap_fKGet, asStr_s, ap_fKIn, ap_fKIx, ap_gAsgL, rUnl_l, ap_fiRng3, asR3_i, rSplitO_s, ap_fOrL, rOrL_l, ap_fLcK, ap_gForK, ap_fMaxD, rMaxD_l, rMaxL_l, ap_fCallXD, ap_gForE, asLE_l, ap_fFrz, ap_fDicO, ap_fDGet, ap_fDGet1, ap_fDGet2, ap_gDPut, ap_fIsiT, ap_gForR, rRep_l, isT_i, isT_s, isT_b, isT_n, isT_t, isT_l, ap_gIf, ap_gRet, ap_gNext, ap_gSet, ap_gAsg, ap_gDrop, ap_gRetF, ap_gRetN, ap_gFor, ap_gSetIx, ap_gBreak, ap_fRev, ap_fiRevR, asIR_i, rRev_l, ap_fCallX, ap_gRaise, ap_gTry, ap_gTryAs, ap_gNever, ap_fEdic, ap_fTest, ap_fOp, ap_fVar, envGet_s, patGet_s, ap_fC, ap_fCB, ap_fCons, ap_fNil, ap_fCall, ap_fAnd, ap_fOr, ap_fNot, ap_fAndV, ap_fOrV, ap_fNotV, ap_fIf, ap_fTup, ap_fLst, ap_fLstO, ap_fChain, ap_fUn, ap_fBM, ap_fBM0, ap_fPool, rPool_i, ap_fSl, ap_fPart, ap_fNoPart, asI_i, rSl_l, ap_fiRng1, ap_fiRng2, ap_fiList, ap_fiTup, ap_fiStr, ap_fiEnum, ap_fiZip, ap_fiRev, asL_l, asT_t, asSg_s, asR1_i, asR2_i, asL1_l, asL2_l, ap_fLc, ap_fLcO, ap_fYes, wipeD, lcD, isi_i_int, isi_i_bool, isi_i_str, isi_i_tuple, isi_i_list, isi_i_dict, isi_b_int, isi_b_bool, isi_b_str, isi_b_tuple, isi_b_list, isi_b_dict, isi_s_int, isi_s_bool, isi_s_str, isi_s_tuple, isi_s_list, isi_s_dict, isi_t_int, isi_t_bool, isi_t_str, isi_t_tuple, isi_t_list, isi_t_dict, isi_l_int, isi_l_bool, isi_l_str, isi_l_tuple, isi_l_list, isi_l_dict, isi_n_int, isi_n_bool, isi_n_str, isi_n_tuple, isi_n_list, isi_n_dict, isi_d_int, isi_d_bool, isi_d_str, isi_d_tuple, isi_d_list, isi_d_dict,
  deref_tup, deref_lst, deref_int, deref_str, deref_bl, deref_non, deref_scr, rLt_i, rLt_s, rLe_i, rLe_s, rInts_i, rInts0_i, rAdd_i, rAdd_s, rAdd_l, rAdd_t, rCatO_l, rNeg_i, rLen_t, rLen_l, rLen_c, rLen_s, rMax_i, rMin_i, rInt_i, rInt_b, rDivmod_i, ap_gAug, rStr_i, rList_l, rList_t, rListO_l, rListO_t, rTup_l, rTup_t,
  rIx_t0, rIx_t1, rIx_t2, rIx_t3, rIx_l0, rIx_l1, rIx_l2, rIsN_x, isNon_t, isNon_n, isNon_i, isNon_s, isNon_l, rEq_i, rEq_b, rEq_i2, rEq_b2, rJoin_m, rSplit_s, tyOk_l, tyOk_s, patD_nm, patD_tp, patDs_nil, patDs_cons, Option.bind_some, notX, notX',
  List.map_cons, List.map_nil, List.length_cons, List.length_nil, List.cons_append, List.nil_append, List.append_nil, List.replicate, List.getElem?_cons_zero, List.getElem?_cons_succ, List.set_cons_zero, List.set_cons_succ, updO_same, updO_updO,
  Nat.reduceSub, Nat.reduceAdd, Nat.reduceLeDiff, Nat.zero_add, Int.cast_ofNat_Int, Int.natCast_zero, Int.natCast_one, Int.reduceLT, Int.reduceLE, Int.reduceEq, Int.reduceAdd, Int.reduceSub, Int.reduceNeg, decide_true, decide_false, if_true, if_false, Bool.false_eq_true, eq_self, reduceIte, Bool.true_eq_false, decide_eq_true_eq, Bool.not_true, Bool.not_false, Bool.not_eq_true', decide_eq_false_iff_not, exists_eq_left', exists_eq_left, D.bl.injEq, true_and, and_true, not_true_eq_false, not_false_eq_true])
section
variable {P : Program} {w : World} {K : PySem.W.Frag} {mg : Str → Option Value} {base : Heap}
local macro_rules | `(tactic| walk_at "tg") => `(tactic| simp (config := { failIfUnchanged := false }) only [te_name_take, te_name_give, te_name_pair, te_name_first, te_name_second, te_name_to, te_name_both, te_name_one, te_name_mark, te_name_name, te_name_thing, te_name_at, te_thing_take, te_thing_give, te_thing_pair, te_thing_first, te_thing_second, te_thing_to, te_thing_both, te_thing_one, te_thing_mark, te_thing_name, te_thing_thing, te_thing_at, te_take_take, te_take_give, te_take_pair, te_take_first, te_take_second, te_take_to, te_take_both, te_take_one, te_take_mark, te_take_name, te_take_thing, te_take_at, te_give_take, te_give_give, te_give_pair, te_give_first, te_give_second, te_give_to, te_give_both, te_give_one, te_give_mark, te_give_name, te_give_thing, te_give_at, te_pair_take, te_pair_give, te_pair_pair, te_pair_first, te_pair_second, te_pair_to, te_pair_both, te_pair_one, te_pair_mark, te_pair_name, te_pair_thing, te_pair_at, te_first_take, te_first_give, te_first_pair, te_first_first, te_first_second, te_first_to, te_first_both, te_first_one, te_first_mark, te_first_name, te_first_thing, te_first_at, te_second_take, te_second_give, te_second_pair, te_second_first, te_second_second, te_second_to, te_second_both, te_second_one, te_second_mark, te_second_name, te_second_thing, te_second_at, te_mark_take, te_mark_give, te_mark_pair, te_mark_first, te_mark_second, te_mark_to, te_mark_both, te_mark_one, te_mark_mark, te_mark_name, te_mark_thing, te_mark_at, te_one_take, te_one_give, te_one_pair, te_one_first, te_one_second, te_one_to, te_one_both, te_one_one, te_one_mark, te_one_name, te_one_thing, te_one_at, te_to_take, te_to_give, te_to_pair, te_to_first, te_to_second, te_to_to, te_to_both, te_to_one, te_to_mark, te_to_name, te_to_thing, te_to_at, te_both_take, te_both_give, te_both_pair, te_both_first, te_both_second, te_both_to, te_both_both, te_both_one, te_both_mark, te_both_name, te_both_thing, te_both_at, te_at_take, te_at_give, te_at_pair, te_at_first, te_at_second, te_at_to, te_at_both, te_at_one, te_at_mark, te_at_name, te_at_thing, te_at_at, ti4_name, ti4_thing, ti4_take, ti4_give, ti4_pair, ti4_first, ti4_second, ti2_name, ti2_thing, ti2_take, ti2_give, ti2_pair, ti2_first, ti2_second, szT_0, szT_1, szT_2, szT_3, szT_4, szT_5, szT_6, szT_7, szT_8, szT_9, szT_10, szT_11, szT_12, Bool.not_true, Bool.not_false, true_and])
theorem gFrz_at {i : Nat} {g : GS} {R : DEnds} {ρ : DEnv} {O : Ow} {a : Addr} {ds : List D} (h : O a = none) (e : ρ[i]? = some (some (.ref a))) : gFrz i g R ρ (updO O a (.lst ds)) = g R (ρ.set i (some (.lst ds))) O := by
  simp only [gFrz, e, updO_same, delO_updO h]
def spRunF (C : Addr) : DSp := fun ds O R RE => ∃ (p : Pg) (b : Db) (pk : D) (pks : List Int), ds = [dP p, pk] ∧ PkOk pk pks ∧ tidy p [] = dress b 0 ∧ Good b ∧ p.hgt ≤ 200 ∧ p.sok = true ∧
  (∀ b' log, runB pks 200 0 b [] = some (b', log) → R (.tup [dP (dress b' 0), .lst (log.map dI)]) O) ∧ (runB pks 200 0 b [] = none → RE (.ref C) none O)
theorem runB_nil {pks : List Int} {f t : Nat} {b : Db} {log : List (List Int)} (h : plcB b [] = []) : runB pks f t b log = some (b, log) := by
  cases f <;> simp [runB, h]
theorem ok_runF (T : Tx K mg) : FO_run P w base T 210 (spRunF T.C_TooLong) := by
  refine fnd_run T (fnUp (ok_tidied T) (by omega)) (fnUp (ok_stepsF T) (by omega)) (fnUp (ok_nextF T) (by omega)) (fnUp (ok_ptc T 101) (by omega)) (fnUp (ok_part_at T) (by omega)) (fnUp (ok_done T) (by omega)) (fnUp (ok_deep_of T 202) (by omega)) (by walk_at "len") ?_
  rintro ds O R RE ⟨p, b, pk, pks, rfl, hpk, hb, hg, hh, hs, hR, hE⟩
  unfold g_run
  refine gSeq_step ?_
  walk_at "kf1"
  refine ⟨p, rfl, by omega, hs, ?_⟩
  rw [hb]
  try dsimp only
  refine gSeq_step ?_
  walk_at "kf1"
  walk_at "tg"
  intro lg hlg
  refine gSeq_step ?_
  walk_at "kf1"
  have places : ∀ {b : Db}, Good b → (dress b 0).hgt ≤ 100 ∧ (plc (dress b 0) []).length ≤ 4194304 := fun {b} g => by
    have h1 := plcB_psz b []
    have h2 := g.sz
    rw [dress_hgt, plc_dress]
    exact ⟨g.hg, by omega⟩
  refine ⟨dress b 0, rfl, (places hg).1, (places hg).2, ?_⟩
  rw [plc_dress]
  try dsimp only
  refine gSeq_step ?_
  refine ⟨fun m ρ O' => ∃ b' log x4, ρ = [some (dP (dress b' 0)), some pk, some (.ref lg), some (.lst ((plcB b' []).map dI)), x4] ∧ Good b' ∧ log.length ≤ 200 ∧ m = 200 - log.length ∧ runB pks (200 - log.length) log.length b' log = runB pks 200 0 b [] ∧ O' = updO O lg (.lst (log.map dI)), ⟨200, b, [], _, rfl, hg, by simp, by simp, rfl, rfl⟩, ?_⟩
  rintro m ρ O' ⟨b', log, x4, rfl, g', hlog, rfl, hrun, rfl⟩
  walk_at "kf1"
  walk_at "tg"
  rw [rEq_nilA (xs := (plcB b' []).map dI) rfl (isPys_dI _)]
  cases e : (plcB b' []).isEmpty with
  | true =>
    have e2 : plcB b' [] = [] := List.isEmpty_iff.mp e
    have e3 : ((plcB b' []).map dI).isEmpty = true := by rw [e2]; rfl
    rw [e3]
    walk_at "kf1"
    rw [gFrz_at hlg rfl]
    walk_at "kf1"
    walk_at "tg"
    rw [runB_nil e2] at hrun
    exact .at (hR b' log hrun.symm)
  | false =>
    have hne : plcB b' [] ≠ [] := fun q => by rw [q] at e; cases e
    have e3 : ((plcB b' []).map dI).isEmpty = false := by
      cases h : plcB b' [] with
      | nil => exact absurd h hne
      | cons _ _ => rfl
    rw [e3]
    have hpl := pickB_mem (pks := pks) (t := log.length) hne
    walk_at "kf1"
    refine gSeq_step ?_
    walk_at "kf1"
    rw [rLen_r updO_same, List.length_map]
    refine ⟨plcB b' [], pk, pks, log.length, rfl, hne, hpk, ?_⟩
    change gSeq _ _ _ [_, _, _, _, some (dI (pickB pks log.length b'))] _
    generalize hple : pickB pks log.length b' = pl at hpl ⊢
    obtain ⟨f1, f2, f3, f4, f5, f6, f7⟩ := place_facts g' hpl
    have hdr : ∀ O2 : Ow, deref O2 (dI pl) = dI pl := fun _ => rfl
    obtain ⟨q, hq, hc⟩ := id f1
    have hdo := ok_dressB b' 0 g'.ok (by have := g'.hg; omega)
    have hqo := partAt_ok pl (dress b' 0) q hq hdo.1
    have hqz : q.psz ≤ 4194304 := by
      have h1 := withPart_psz (w := q) (dress b' 0) pl q hq
      have h3 := withPart_psz (w := .thing) (dress b' 0) pl q hq
      have h4 := (withPart (dress b' 0) pl .thing).psz_pos
      have h2 := g'.sz
      rw [dress_psz] at h1 h3
      simp only [Pg.psz] at h3
      omega
    have raise : ∀ ρ : DEnv, runB pks (200 - log.length) log.length b' log = none → XG RE (.ref T.C_TooLong) none ρ (updO O lg (.lst (log.map dI))) := fun ρ h => ⟨O, sub_upd hlg, hE (by rw [← hrun]; exact h)⟩
    refine gSeq_step ?_
    walk_at "kf1"
    rw [rLen_r updO_same, List.length_map]
    walk_at "kf1"
    split
    · rename_i h200
      have h200' : log.length = 200 := by omega
      refine raise _ ?_
      rw [h200']
      simp [runB, hne]
    · rename_i h200
      obtain ⟨k, hk⟩ : ∃ k, 200 - log.length = k + 1 := ⟨199 - log.length, by omega⟩
      have hgt' : (dress b' 0).hgt < 101 := by rw [dress_hgt]; have := g'.hg; omega
      refine ⟨dress b' 0, q, dI pl, pl, rfl, hdr _, hq, ?_⟩
      refine ⟨dress b' 0, q, rfl, hgt', by omega, hc, hqo.1, hqz, ?_⟩
      rw [ptc_eq hq, f5]
      walk_at "kf1"
      split
      · rename_i hbig
        refine raise _ ?_
        rw [hk]
        unfold runB
        rw [if_neg hne, if_pos]
        left
        rw [hple]; omega
      · rename_i hbig
        try dsimp only
        refine gSeq_step ?_
        walk_at "kf1"
        refine ⟨dress b' 0, dI pl, pl, rfl, hdr _, f1, by omega, f3, hdo.1, by omega, ?_⟩
        rw [f4]
        try dsimp only
        refine gSeq_step ?_
        walk_at "kf1"
        refine ⟨dress (stepB b' pl) 0, rfl, by rw [dress_hgt]; omega, ?_⟩
        rw [dress_hgt]
        walk_at "kf1"
        split
        · rename_i hdeep
          refine raise _ ?_
          rw [hk]
          unfold runB
          rw [if_neg hne, if_pos]
          right
          rw [hple]; omega
        · rename_i hdeep
          have hcond : ¬ (1500 < (stepB b' pl).psz ∨ 100 < (stepB b' pl).hgt) := by omega
          have g2 := good_step g' hpl hcond
          try dsimp only
          refine gSeq_step ?_
          walk_at "kf1"
          refine ⟨tyOk_r updO_same, ?_⟩
          rw [rApp_r updO_same]
          refine ⟨Nat.lt_of_lt_of_le (show (log.map dI).length < 201 by rw [List.length_map]; omega) (by decide), ?_⟩
          rw [updO_updO]
          walk_at "kf1"
          refine ⟨dress (stepB b' pl) 0, rfl, (places g2).1, (places g2).2, ?_⟩
          rw [plc_dress]
          try dsimp only
          refine ⟨200 - (log ++ [pl]).length, by simp only [List.length_append, List.length_singleton]; omega, stepB b' pl, log ++ [pl], _, rfl, g2, by simp only [List.length_append, List.length_singleton]; omega, rfl, ?_, by rw [List.map_append]; rfl⟩
          rw [← hrun, hk]
          conv => rhs; unfold runB
          rw [if_neg hne, hple, if_neg hcond, List.length_append, List.length_singleton, show 200 - (log.length + 1) = k by omega]
end
end Kf
namespace Kf
open PySem PySem.Spec L2
open PyProof.Rows hiding St
local macro_rules | `(tactic| walk_at "kf") => `(tactic| simp (config := { failIfUnchanged := false }) only [startD, ap_fiEnumT, asT1_t, ap_fKGet, asStr_s, ap_fKIn, ap_fKIx, ap_gAsgL, rUnl_l, ap_fiRng3, asR3_i, rSplitO_s, ap_fOrL, rOrL_l, ap_fLcK, ap_gForK, ap_fMaxD, rMaxD_l, rMaxL_l, ap_fCallXD, ap_gForE, asLE_l, ap_fFrz, ap_fDicO, ap_fDGet, ap_fDGet1, ap_fDGet2, ap_gDPut, ap_fIsiT, ap_gForR, rRep_l, isT_i, isT_s, isT_b, isT_n, isT_t, isT_l, ap_gSeq, ap_gIf, ap_gRet, ap_gNext, ap_gSet, ap_gAsg, ap_gDrop, ap_gRetF, ap_gRetN, ap_gFor, ap_gSetIx, ap_gBreak, ap_fRev, ap_fiRevR, asIR_i, rRev_l, ap_fCallX, ap_gRaise, ap_gTry, ap_gTryAs, ap_gNever, ap_fEdic, ap_fTest, ap_fOp, ap_fVar, envGet_s, patGet_s, ap_fC, ap_fCB, ap_fCons, ap_fNil, ap_fCall, ap_fAnd, ap_fOr, ap_fNot, ap_fAndV, ap_fOrV, ap_fNotV, ap_fIf, ap_fTup, ap_fLst, ap_fLstO, ap_fChain, ap_fUn, ap_fBM, ap_fBM0, ap_fPool, rPool_i, ap_fSl, ap_fPart, ap_fNoPart, asI_i, rSl_l, ap_fiRng1, ap_fiRng2, ap_fiList, ap_fiTup, ap_fiStr, ap_fiEnum, ap_fiZip, ap_fiRev, asL_l, asT_t, asSg_s, asR1_i, asR2_i, asL1_l, asL2_l, ap_fLc, ap_fLcO, ap_fYes, wipeD, lcD, isi_i_int, isi_i_bool, isi_i_str, isi_i_tuple, isi_i_list, isi_i_dict, isi_b_int, isi_b_bool, isi_b_str, isi_b_tuple, isi_b_list, isi_b_dict, isi_s_int, isi_s_bool, isi_s_str, isi_s_tuple, isi_s_list, isi_s_dict, isi_t_int, isi_t_bool, isi_t_str, isi_t_tuple, isi_t_list, isi_t_dict, isi_l_int, isi_l_bool, isi_l_str, isi_l_tuple, isi_l_list, isi_l_dict, isi_n_int, isi_n_bool, isi_n_str, isi_n_tuple, isi_n_list, isi_n_dict, isi_d_int, isi_d_bool, isi_d_str, isi_d_tuple, isi_d_list, isi_d_dict,
  deref_tup, deref_lst, deref_int, deref_str, deref_bl, deref_non, deref_scr, rLt_i, rLt_s, rLe_i, rLe_s, rInts_i, rInts0_i, rAdd_i, rAdd_s, rAdd_l, rAdd_t, rCatO_l, rNeg_i, rLen_t, rLen_l, rLen_c, rLen_s, rMax_i, rMin_i, rInt_i, rInt_b, rDivmod_i, ap_gAug, rStr_i, rList_l, rList_t, rListO_l, rListO_t, rTup_l, rTup_t,
  rIx_t0, rIx_t1, rIx_t2, rIx_t3, rIx_l0, rIx_l1, rIx_l2, rIsN_x, isNon_t, isNon_n, isNon_i, isNon_s, isNon_l, rEq_i, rEq_b, rEq_i2, rEq_b2, rJoin_m, rSplit_s, tyOk_l, tyOk_s, patD_nm, patD_tp, patDs_nil, patDs_cons, Option.bind_some, notX, notX',
  List.map_cons, List.map_nil, List.length_cons, List.length_nil, List.cons_append, List.nil_append, List.append_nil, List.replicate, List.getElem?_cons_zero, List.getElem?_cons_succ, List.set_cons_zero, List.set_cons_succ, updO_same, updO_updO,
  Nat.reduceSub, Nat.reduceAdd, Nat.reduceLeDiff, Nat.zero_add, Int.cast_ofNat_Int, Int.natCast_zero, Int.natCast_one, Int.reduceLT, Int.reduceLE, Int.reduceEq, Int.reduceAdd, Int.reduceSub, Int.reduceNeg, decide_true, decide_false, if_true, if_false, Bool.false_eq_true, eq_self, reduceIte, Bool.true_eq_false, decide_eq_true_eq, Bool.not_true, Bool.not_false, Bool.not_eq_true', decide_eq_false_iff_not, exists_eq_left', exists_eq_left, D.bl.injEq, true_and, and_true, not_true_eq_false, not_false_eq_true])
local macro_rules | `(tactic| walk_at "len") => `(tactic| (intro ds O R RE h; first | (obtain ⟨e, _⟩ := h; subst e; rfl) | (obtain ⟨_, e, _⟩ := h; subst e; rfl) | (obtain ⟨_, _, e, _⟩ := h; subst e; rfl) | (obtain ⟨_, _, _, e, _⟩ := h; subst e; rfl) | (obtain ⟨_, _, _, _, e, _⟩ := h; subst e; rfl) | (obtain ⟨_, _, _, _, _, e, _⟩ := h; subst e; rfl) | (obtain ⟨_, _, _, _, _, _, e, _⟩ := h; subst e; rfl) | (obtain ⟨_, _, _, _, _, _, _, e, _⟩ := h; subst e; rfl) | (obtain ⟨_, _, _, _, _, _, _, _, e, _⟩ := h; subst e; rfl) | (obtain ⟨_, _, _, _, _, _, _, _, _, e, _⟩ := h; subst e; rfl)))
local macro_rules | `(tactic| walk_at "kf1") => `(tactic| simp (config := { failIfUnchanged := false }) only [startD, ap_fiEnumT, asT1_t, ap_fKGet, asStr_s, ap_fKIn, ap_fKIx, ap_gAsgL, rUnl_l, ap_fiRng3, asR3_i, rSplitO_s, ap_fOrL, rOrL_l, ap_fLcK, ap_gForK, ap_fMaxD, rMaxD_l, rMaxL_l, ap_fCallXD, ap_gForE, asLE_l, ap_fFrz, ap_fDicO, ap_fDGet, ap_fDGet1, ap_fDGet2, ap_gDPut, ap_fIsiT, ap_gForR, rRep_l, isT_i, isT_s, isT_b, isT_n, isT_t, isT_l, ap_gIf, ap_gRet, ap_gNext, ap_gSet, ap_gAsg, ap_gDrop, ap_gRetF, ap_gRetN, ap_gFor, ap_gSetIx, ap_gBreak, ap_fRev, ap_fiRevR, asIR_i, rRev_l, ap_fCallX, ap_gRaise, ap_gTry, ap_gTryAs, ap_gNever, ap_fEdic, ap_fTest, ap_fOp, ap_fVar, envGet_s, patGet_s, ap_fC, ap_fCB, ap_fCons, ap_fNil, ap_fCall, ap_fAnd, ap_fOr, ap_fNot, ap_fAndV, ap_fOrV, ap_fNotV, ap_fIf, ap_fTup, ap_fLst, ap_fLstO, ap_fChain, ap_fUn, ap_fBM, ap_fBM0, ap_fPool, rPool_i, ap_fSl, ap_fPart, ap_fNoPart, asI_i, rSl_l, ap_fiRng1, ap_fiRng2, ap_fiList, ap_fiTup, ap_fiStr, ap_fiEnum, ap_fiZip, ap_fiRev, asL_l, asT_t, asSg_s, asR1_i, asR2_i, asL1_l, asL2_l, ap_fLc, ap_fLcO, ap_fYes, wipeD, lcD, isi_i_int, isi_i_bool, isi_i_str, isi_i_tuple, isi_i_list, isi_i_dict, isi_b_int, isi_b_bool, isi_b_str, isi_b_tuple, isi_b_list, isi_b_dict, isi_s_int, isi_s_bool, isi_s_str, isi_s_tuple, isi_s_list, isi_s_dict, isi_t_int, isi_t_bool, isi_t_str, isi_t_tuple, isi_t_list, isi_t_dict, isi_l_int, isi_l_bool, isi_l_str, isi_l_tuple, isi_l_list, isi_l_dict, isi_n_int, isi_n_bool, isi_n_str, isi_n_tuple, isi_n_list, isi_n_dict, isi_d_int, isi_d_bool, isi_d_str, isi_d_tuple, isi_d_list, isi_d_dict,
  deref_tup, deref_lst, deref_int, deref_str, deref_bl, deref_non, deref_scr, rLt_i, rLt_s, rLe_i, rLe_s, rInts_i, rInts0_i, rAdd_i, rAdd_s, rAdd_l, rAdd_t, rCatO_l, rNeg_i, rLen_t, rLen_l, rLen_c, rLen_s, rMax_i, rMin_i, rInt_i, rInt_b, rDivmod_i, ap_gAug, rStr_i, rList_l, rList_t, rListO_l, rListO_t, rTup_l, rTup_t,
  rIx_t0, rIx_t1, rIx_t2, rIx_t3, rIx_l0, rIx_l1, rIx_l2, rIsN_x, isNon_t, isNon_n, isNon_i, isNon_s, isNon_l, rEq_i, rEq_b, rEq_i2, rEq_b2, rJoin_m, rSplit_s, tyOk_l, tyOk_s, patD_nm, patD_tp, patDs_nil, patDs_cons, Option.bind_some, notX, notX',
  List.map_cons, List.map_nil, List.length_cons, List.length_nil, List.cons_append, List.nil_append, List.append_nil, List.replicate, List.getElem?_cons_zero, List.getElem?_cons_succ, List.set_cons_zero, List.set_cons_succ, updO_same, updO_updO,
  Nat.reduceSub, Nat.reduceAdd, Nat.reduceLeDiff, Nat.zero_add, Int.cast_ofNat_Int, Int.natCast_zero, Int.natCast_one, Int.reduceLT, Int.reduceLE, Int.reduceEq, Int.reduceAdd, Int.reduceSub, Int.reduceNeg, decide_true, decide_false, if_true, if_false, Bool.false_eq_true, eq_self, reduceIte, Bool.true_eq_false, decide_eq_true_eq, Bool.not_true, Bool.not_false, Bool.not_eq_true', decide_eq_false_iff_not, exists_eq_left', exists_eq_left, D.bl.injEq, true_and, and_true, not_true_eq_false, not_false_eq_true])
section
variable {P : Program} {w : World} {K : PySem.W.Frag} {mg : Str → Option Value} {base : Heap}
local macro_rules | `(tactic| walk_at "tg") => `(tactic| simp (config := { failIfUnchanged := false }) only [te_name_take, te_name_give, te_name_pair, te_name_first, te_name_second, te_name_to, te_name_both, te_name_one, te_name_mark, te_name_name, te_name_thing, te_name_at, te_thing_take, te_thing_give, te_thing_pair, te_thing_first, te_thing_second, te_thing_to, te_thing_both, te_thing_one, te_thing_mark, te_thing_name, te_thing_thing, te_thing_at, te_take_take, te_take_give, te_take_pair, te_take_first, te_take_second, te_take_to, te_take_both, te_take_one, te_take_mark, te_take_name, te_take_thing, te_take_at, te_give_take, te_give_give, te_give_pair, te_give_first, te_give_second, te_give_to, te_give_both, te_give_one, te_give_mark, te_give_name, te_give_thing, te_give_at, te_pair_take, te_pair_give, te_pair_pair, te_pair_first, te_pair_second, te_pair_to, te_pair_both, te_pair_one, te_pair_mark, te_pair_name, te_pair_thing, te_pair_at, te_first_take, te_first_give, te_first_pair, te_first_first, te_first_second, te_first_to, te_first_both, te_first_one, te_first_mark, te_first_name, te_first_thing, te_first_at, te_second_take, te_second_give, te_second_pair, te_second_first, te_second_second, te_second_to, te_second_both, te_second_one, te_second_mark, te_second_name, te_second_thing, te_second_at, te_mark_take, te_mark_give, te_mark_pair, te_mark_first, te_mark_second, te_mark_to, te_mark_both, te_mark_one, te_mark_mark, te_mark_name, te_mark_thing, te_mark_at, te_one_take, te_one_give, te_one_pair, te_one_first, te_one_second, te_one_to, te_one_both, te_one_one, te_one_mark, te_one_name, te_one_thing, te_one_at, te_to_take, te_to_give, te_to_pair, te_to_first, te_to_second, te_to_to, te_to_both, te_to_one, te_to_mark, te_to_name, te_to_thing, te_to_at, te_both_take, te_both_give, te_both_pair, te_both_first, te_both_second, te_both_to, te_both_both, te_both_one, te_both_mark, te_both_name, te_both_thing, te_both_at, te_at_take, te_at_give, te_at_pair, te_at_first, te_at_second, te_at_to, te_at_both, te_at_one, te_at_mark, te_at_name, te_at_thing, te_at_at, ti4_name, ti4_thing, ti4_take, ti4_give, ti4_pair, ti4_first, ti4_second, ti2_name, ti2_thing, ti2_take, ti2_give, ti2_pair, ti2_first, ti2_second, szT_0, szT_1, szT_2, szT_3, szT_4, szT_5, szT_6, szT_7, szT_8, szT_9, szT_10, szT_11, szT_12, Bool.not_true, Bool.not_false, true_and])
theorem ti4_at {neg : Bool} {O : Ow} {Q : VD} : rInD neg (.str (Str.ofString "at")) (.tup [.str (Str.ofString "give"), .str (Str.ofString "pair"), .str (Str.ofString "first"), .str (Str.ofString "second")]) O Q = Q (.bl (neg ^^ false)) O := by
  rw [show (D.tup [.str (Str.ofString "give"), .str (Str.ofString "pair"), .str (Str.ofString "first"), .str (Str.ofString "second")]) = .tup ([Str.ofString "give", Str.ofString "pair", Str.ofString "first", Str.ofString "second"].map .str) from rfl, rIn_ws sw_at (by decide +kernel)]
  rw [show decide (Str.ofString "at" ∈ [Str.ofString "give", Str.ofString "pair", Str.ofString "first", Str.ofString "second"]) = false by decide +kernel]
theorem ti2_at {neg : Bool} {O : Ow} {Q : VD} : rInD neg (.str (Str.ofString "at")) (.tup [.str (Str.ofString "first"), .str (Str.ofString "second")]) O Q = Q (.bl (neg ^^ false)) O := by
  rw [show (D.tup [.str (Str.ofString "first"), .str (Str.ofString "second")]) = .tup ([Str.ofString "first", Str.ofString "second"].map .str) from rfl, rIn_ws sw_at (by decide +kernel)]
  rw [show decide (Str.ofString "at" ∈ [Str.ofString "first", Str.ofString "second"]) = false by decide +kernel]
def spInnerB : DSp := fun ds O R _ => ∃ b : Db, ds = [dB b] ∧ R (.lst (b.ins.map dB)) O
theorem ok_linnerB (T : Tx K mg) : FO__law_inner P w base T 1 spInnerB := by
  refine fnd__law_inner T (by walk_at "len") ?_
  rintro ds O R RE ⟨p, rfl, hR⟩
  unfold g__law_inner
  cases p <;> simp only [dB, Db.ins] at hR ⊢ <;> walk_at "kf" <;> walk_at "tg" <;> (try rw [ti4_at]) <;> walk_at "kf" <;> walk_at "tg" <;> (try rw [ti4_at]) <;> walk_at "kf" <;> (try simp only [sl1_2, sl1_3]) <;> walk_at "kf" <;> walk_at "tg" <;> exact hR
def spCanB : DSp := fun ds O R _ => ∃ b : Db, ds = [dB b] ∧ R (.bl b.can) O
theorem ok_lcanB (T : Tx K mg) : FO__law_can P w base T 1 spCanB := by
  refine fnd__law_can T (by walk_at "len") ?_
  rintro ds O R RE ⟨p, rfl, hR⟩
  unfold g__law_can
  cases p with
  | give f a => cases f <;> simp only [dB, Db.can, Db.isTake] at hR ⊢ <;> walk_at "kf" <;> walk_at "tg" <;> walk_at "kf" <;> walk_at "tg" <;> exact hR
  | first f => cases f <;> simp only [dB, Db.can, Db.isPair] at hR ⊢ <;> walk_at "kf" <;> walk_at "tg" <;> walk_at "kf" <;> walk_at "tg" <;> walk_at "kf" <;> walk_at "tg" <;> exact hR
  | second f => cases f <;> simp only [dB, Db.can, Db.isPair] at hR ⊢ <;> walk_at "kf" <;> walk_at "tg" <;> walk_at "kf" <;> walk_at "tg" <;> walk_at "kf" <;> walk_at "tg" <;> exact hR
  | _ => simp only [dB, Db.can] at hR ⊢ <;> walk_at "kf" <;> walk_at "tg" <;> walk_at "kf" <;> walk_at "tg" <;> (try rw [ti2_at]) <;> walk_at "kf" <;> exact hR
theorem insB_psz {p q : Db} (h : q ∈ p.ins) : q.psz < p.psz := by
  cases p <;> simp only [Db.ins, List.mem_cons, List.not_mem_nil, or_false] at h
  · subst h; simp [Db.psz]
  · rcases h with rfl | rfl <;> simp only [Db.psz] <;> omega
  · rcases h with rfl | rfl <;> simp only [Db.psz] <;> omega
  · subst h; simp [Db.psz]
  · subst h; simp [Db.psz]
def spLPlacesB (n : Nat) : DSp := fun ds O R _ => ∃ (p : Db) (pl : List Int), ds = [dB p, dI pl] ∧ p.hgt < n ∧ pl.length + p.hgt ≤ 1000 ∧ p.psz ≤ 4194304 ∧ R (.lst ((plcB p pl).map dI)) O
theorem ok_lplacesB (T : Tx K mg) : ∀ n, FO__law_places P w base T (n + 1) (spLPlacesB n)
  | 0 => fnUp (none_left fun ds O R RE ⟨p, pl, _, h, _⟩ => by omega) (Nat.zero_le _)
  | n + 1 => by
    refine fnd__law_places T (fnUp (ok_lcanB T) (by omega)) (fnUp (ok_linnerB T) (by omega)) (ok_lplacesB T n) (by walk_at "len") ?_
    rintro ds O R RE ⟨p, pl, rfl, hn, hl, hh, hR⟩
    unfold g__law_places
    refine gSeq_step ?_
    walk_at "kf1"
    walk_at "tg"
    refine ⟨p, rfl, ?_⟩
    have e : (List.replicate (if p.can = true then (1 : Int) else 0).toNat [dI pl]).flatten = (if p.can then [pl] else []).map dI := by cases p.can <;> rfl
    walk_at "kf1"
    rw [e]
    refine ⟨by cases p.can <;> exact ⟨by decide, by decide, by decide⟩, ?_⟩
    have hp := plcB_eq p pl
    have hsz : (plcB p pl).length ≤ 4194304 := Nat.le_trans (Nat.le_of_lt (plcB_psz p pl)) hh
    generalize (if p.can then [pl] else []) = c at hp ⊢
    refine gSeq_step ?_
    walk_at "kf1"
    refine ⟨p, rfl, ?_⟩
    walk_at "kf1"
    have call : ∀ (q : Db) (i : Int) (O' : Ow) (R' : VD) (RE' : XD), q ∈ p.ins → R' (.lst ((plcB q (pl ++ [i])).map dI)) O' → spLPlacesB n [dB q, .lst (pl.map .int ++ [.int i])] O' R' RE' := by
      intro q i O' R' RE' hq h
      have := insB_hgt hq
      have := insB_psz hq
      exact ⟨q, pl ++ [i], by simp [dI], by omega, by rw [List.length_append, List.length_singleton]; omega, by omega, h⟩
    have lpl : ∀ {x : Db}, x ∈ p.ins → (pl.map D.int).length + 1 ≤ sizeLine := fun hx => sz_21 (by rw [List.length_map]; have := insB_hgt hx; omega)
    rcases insB_cases p with hi | ⟨x, hi⟩ | ⟨x, y, hi⟩ <;> rw [hi] at hp ⊢ <;> simp only [List.map_cons, List.map_nil, enum0, enum1, enum2, forD, plcBs, List.append_nil] at hp ⊢
    · try dsimp only
      walk_at "kf"
      rw [hp] at hR
      exact hR
    · walk_at "kf1"
      have hx : x ∈ p.ins := by rw [hi]; exact List.mem_cons_self
      walk_at "tg"
      refine ⟨lpl hx, call x 0 _ _ _ hx ?_⟩
      walk_at "kf1"
      rw [hp] at hR hsz
      rw [List.length_append] at hsz
      refine ⟨sz_21 (by rw [List.length_map, List.length_map]; simp only [Int.natCast_zero] at hsz; exact Nat.le_trans hsz (by decide)), ?_⟩
      try dsimp only
      walk_at "kf"
      rw [← List.map_append]
      exact hR
    · walk_at "kf1"
      have hx : x ∈ p.ins := by rw [hi]; exact List.mem_cons_self
      have hy : y ∈ p.ins := by rw [hi]; exact List.mem_cons_of_mem _ List.mem_cons_self
      rw [hp] at hR hsz
      rw [List.length_append, List.length_append] at hsz
      simp only [Int.natCast_zero, show ((0 + 1 : Nat) : Int) = 1 from rfl] at hsz hR
      walk_at "tg"
      refine ⟨lpl hx, call x 0 _ _ _ hx ?_⟩
      walk_at "kf1"
      refine ⟨sz_21 (by rw [List.length_map, List.length_map]; omega), ?_⟩
      try dsimp only
      walk_at "kf1"
      walk_at "tg"
      refine ⟨lpl hy, call y 1 _ _ _ hy ?_⟩
      walk_at "kf1"
      refine ⟨sz_21 (by rw [List.length_append, List.length_map, List.length_map, List.length_map]; omega), ?_⟩
      try dsimp only
      walk_at "kf"
      rw [← List.map_append, ← List.map_append, List.append_assoc]
      exact hR
theorem pszB_ins (p : Db) : 1 + (p.ins.map fun q => (q.psz : Int)).sum = p.psz := by
  cases p <;> simp [Db.ins, Db.psz] <;> omega
theorem hgtB_ins (p : Db) : lmx (0 :: p.ins.map fun q => 1 + (q.hgt : Int)) = p.hgt := by
  cases p <;> simp [Db.ins, Db.hgt, lmx] <;> (repeat split) <;> omega
theorem insB_le (p : Db) : p.ins.length ≤ 2 := by rcases insB_cases p with e | ⟨x, e⟩ | ⟨x, y, e⟩ <;> rw [e] <;> simp
def spLParts (n : Nat) : DSp := fun ds O R _ => ∃ p : Db, ds = [dB p] ∧ p.hgt < n ∧ R (.int p.psz) O
theorem ok_lparts (T : Tx K mg) : ∀ n, FO__law_parts P w base T (n + 1) (spLParts n)
  | 0 => none_left fun ds O R RE ⟨p, _, h, _⟩ => by omega
  | n + 1 => by
    refine fnd__law_parts T (fnUp (ok_linnerB T) (by omega)) (ok_lparts T n) (by walk_at "len") ?_
    rintro ds O R RE ⟨p, rfl, hn, hR⟩
    unfold g__law_parts
    walk_at "kf1"
    refine ⟨p, rfl, ?_⟩
    walk_at "kf1"
    have hln := insB_le p
    refine lcA_map dB (fun q => .int q.psz) p.ins _ _ (sz_small (by simp only [List.length_nil]; omega)) ?_ ?_
    · intro q hq Q' hQ'
      have h4 := insB_hgt hq
      walk_at "kf1"
      exact ⟨q, rfl, by omega, hQ'⟩
    · rw [List.nil_append, lcMap_ints, rSum_m]
      walk_at "kf1"
      rw [pszB_ins]
      exact hR
def spLHigh (n : Nat) : DSp := fun ds O R _ => ∃ p : Db, ds = [dB p] ∧ p.hgt < n ∧ R (.int p.hgt) O
theorem ok_lhigh (T : Tx K mg) : ∀ n, FO__law_high P w base T (n + 1) (spLHigh n)
  | 0 => none_left fun ds O R RE ⟨p, _, h, _⟩ => by omega
  | n + 1 => by
    refine fnd__law_high T (fnUp (ok_linnerB T) (by omega)) (ok_lhigh T n) (by walk_at "len") ?_
    rintro ds O R RE ⟨p, rfl, hn, hR⟩
    unfold g__law_high
    walk_at "kf1"
    walk_at "tg"
    refine ⟨p, rfl, ?_⟩
    walk_at "kf1"
    have hln := insB_le p
    refine lcA_map dB (fun q => .int (1 + q.hgt)) p.ins _ _ (sz_small (by simp only [List.length_nil]; omega)) ?_ ?_
    · intro q hq Q' hQ'
      have h4 := insB_hgt hq
      walk_at "kf1"
      exact ⟨q, rfl, by omega, hQ'⟩
    · rw [List.nil_append, lcMap_ints]
      walk_at "kf1"
      refine ⟨sz_small (by simp only [List.length_map]; omega), ?_⟩
      rw [show (D.int 0 :: (p.ins.map fun q => 1 + (q.hgt : Int)).map D.int) = (0 :: p.ins.map fun q => 1 + (q.hgt : Int)).map D.int from rfl, rMaxL_l, hgtB_ins]
      exact ⟨by simp, hR⟩
end
end Kf
namespace Kf
open PySem PySem.Spec L2
open PyProof.Rows hiding St
local macro_rules | `(tactic| walk_at "kf") => `(tactic| simp (config := { failIfUnchanged := false }) only [startD, ap_fiEnumT, asT1_t, ap_fKGet, asStr_s, ap_fKIn, ap_fKIx, ap_gAsgL, rUnl_l, ap_fiRng3, asR3_i, rSplitO_s, ap_fOrL, rOrL_l, ap_fLcK, ap_gForK, ap_fMaxD, rMaxD_l, rMaxL_l, ap_fCallXD, ap_gForE, asLE_l, ap_fFrz, ap_fDicO, ap_fDGet, ap_fDGet1, ap_fDGet2, ap_gDPut, ap_fIsiT, ap_gForR, rRep_l, isT_i, isT_s, isT_b, isT_n, isT_t, isT_l, ap_gSeq, ap_gIf, ap_gRet, ap_gNext, ap_gSet, ap_gAsg, ap_gDrop, ap_gRetF, ap_gRetN, ap_gFor, ap_gSetIx, ap_gBreak, ap_fRev, ap_fiRevR, asIR_i, rRev_l, ap_fCallX, ap_gRaise, ap_gTry, ap_gTryAs, ap_gNever, ap_fEdic, ap_fTest, ap_fOp, ap_fVar, envGet_s, patGet_s, ap_fC, ap_fCB, ap_fCons, ap_fNil, ap_fCall, ap_fAnd, ap_fOr, ap_fNot, ap_fAndV, ap_fOrV, ap_fNotV, ap_fIf, ap_fTup, ap_fLst, ap_fLstO, ap_fChain, ap_fUn, ap_fBM, ap_fBM0, ap_fPool, rPool_i, ap_fSl, ap_fPart, ap_fNoPart, asI_i, rSl_l, ap_fiRng1, ap_fiRng2, ap_fiList, ap_fiTup, ap_fiStr, ap_fiEnum, ap_fiZip, ap_fiRev, asL_l, asT_t, asSg_s, asR1_i, asR2_i, asL1_l, asL2_l, ap_fLc, ap_fLcO, ap_fYes, wipeD, lcD, isi_i_int, isi_i_bool, isi_i_str, isi_i_tuple, isi_i_list, isi_i_dict, isi_b_int, isi_b_bool, isi_b_str, isi_b_tuple, isi_b_list, isi_b_dict, isi_s_int, isi_s_bool, isi_s_str, isi_s_tuple, isi_s_list, isi_s_dict, isi_t_int, isi_t_bool, isi_t_str, isi_t_tuple, isi_t_list, isi_t_dict, isi_l_int, isi_l_bool, isi_l_str, isi_l_tuple, isi_l_list, isi_l_dict, isi_n_int, isi_n_bool, isi_n_str, isi_n_tuple, isi_n_list, isi_n_dict, isi_d_int, isi_d_bool, isi_d_str, isi_d_tuple, isi_d_list, isi_d_dict,
  deref_tup, deref_lst, deref_int, deref_str, deref_bl, deref_non, deref_scr, rLt_i, rLt_s, rLe_i, rLe_s, rInts_i, rInts0_i, rAdd_i, rAdd_s, rAdd_l, rAdd_t, rCatO_l, rNeg_i, rLen_t, rLen_l, rLen_c, rLen_s, rMax_i, rMin_i, rInt_i, rInt_b, rDivmod_i, ap_gAug, rStr_i, rList_l, rList_t, rListO_l, rListO_t, rTup_l, rTup_t,
  rIx_t0, rIx_t1, rIx_t2, rIx_t3, rIx_l0, rIx_l1, rIx_l2, rIsN_x, isNon_t, isNon_n, isNon_i, isNon_s, isNon_l, rEq_i, rEq_b, rEq_i2, rEq_b2, rJoin_m, rSplit_s, tyOk_l, tyOk_s, patD_nm, patD_tp, patDs_nil, patDs_cons, Option.bind_some, notX, notX',
  List.map_cons, List.map_nil, List.length_cons, List.length_nil, List.cons_append, List.nil_append, List.append_nil, List.replicate, List.getElem?_cons_zero, List.getElem?_cons_succ, List.set_cons_zero, List.set_cons_succ, updO_same, updO_updO,
  Nat.reduceSub, Nat.reduceAdd, Nat.reduceLeDiff, Nat.zero_add, Int.cast_ofNat_Int, Int.natCast_zero, Int.natCast_one, Int.reduceLT, Int.reduceLE, Int.reduceEq, Int.reduceAdd, Int.reduceSub, Int.reduceNeg, decide_true, decide_false, if_true, if_false, Bool.false_eq_true, eq_self, reduceIte, Bool.true_eq_false, decide_eq_true_eq, Bool.not_true, Bool.not_false, Bool.not_eq_true', decide_eq_false_iff_not, exists_eq_left', exists_eq_left, D.bl.injEq, true_and, and_true, not_true_eq_false, not_false_eq_true])
local macro_rules | `(tactic| walk_at "len") => `(tactic| (intro ds O R RE h; first | (obtain ⟨e, _⟩ := h; subst e; rfl) | (obtain ⟨_, e, _⟩ := h; subst e; rfl) | (obtain ⟨_, _, e, _⟩ := h; subst e; rfl) | (obtain ⟨_, _, _, e, _⟩ := h; subst e; rfl) | (obtain ⟨_, _, _, _, e, _⟩ := h; subst e; rfl) | (obtain ⟨_, _, _, _, _, e, _⟩ := h; subst e; rfl) | (obtain ⟨_, _, _, _, _, _, e, _⟩ := h; subst e; rfl) | (obtain ⟨_, _, _, _, _, _, _, e, _⟩ := h; subst e; rfl) | (obtain ⟨_, _, _, _, _, _, _, _, e, _⟩ := h; subst e; rfl) | (obtain ⟨_, _, _, _, _, _, _, _, _, e, _⟩ := h; subst e; rfl)))
local macro_rules | `(tactic| walk_at "kf1") => `(tactic| simp (config := { failIfUnchanged := false }) only [startD, ap_fiEnumT, asT1_t, ap_fKGet, asStr_s, ap_fKIn, ap_fKIx, ap_gAsgL, rUnl_l, ap_fiRng3, asR3_i, rSplitO_s, ap_fOrL, rOrL_l, ap_fLcK, ap_gForK, ap_fMaxD, rMaxD_l, rMaxL_l, ap_fCallXD, ap_gForE, asLE_l, ap_fFrz, ap_fDicO, ap_fDGet, ap_fDGet1, ap_fDGet2, ap_gDPut, ap_fIsiT, ap_gForR, rRep_l, isT_i, isT_s, isT_b, isT_n, isT_t, isT_l, ap_gIf, ap_gRet, ap_gNext, ap_gSet, ap_gAsg, ap_gDrop, ap_gRetF, ap_gRetN, ap_gFor, ap_gSetIx, ap_gBreak, ap_fRev, ap_fiRevR, asIR_i, rRev_l, ap_fCallX, ap_gRaise, ap_gTry, ap_gTryAs, ap_gNever, ap_fEdic, ap_fTest, ap_fOp, ap_fVar, envGet_s, patGet_s, ap_fC, ap_fCB, ap_fCons, ap_fNil, ap_fCall, ap_fAnd, ap_fOr, ap_fNot, ap_fAndV, ap_fOrV, ap_fNotV, ap_fIf, ap_fTup, ap_fLst, ap_fLstO, ap_fChain, ap_fUn, ap_fBM, ap_fBM0, ap_fPool, rPool_i, ap_fSl, ap_fPart, ap_fNoPart, asI_i, rSl_l, ap_fiRng1, ap_fiRng2, ap_fiList, ap_fiTup, ap_fiStr, ap_fiEnum, ap_fiZip, ap_fiRev, asL_l, asT_t, asSg_s, asR1_i, asR2_i, asL1_l, asL2_l, ap_fLc, ap_fLcO, ap_fYes, wipeD, lcD, isi_i_int, isi_i_bool, isi_i_str, isi_i_tuple, isi_i_list, isi_i_dict, isi_b_int, isi_b_bool, isi_b_str, isi_b_tuple, isi_b_list, isi_b_dict, isi_s_int, isi_s_bool, isi_s_str, isi_s_tuple, isi_s_list, isi_s_dict, isi_t_int, isi_t_bool, isi_t_str, isi_t_tuple, isi_t_list, isi_t_dict, isi_l_int, isi_l_bool, isi_l_str, isi_l_tuple, isi_l_list, isi_l_dict, isi_n_int, isi_n_bool, isi_n_str, isi_n_tuple, isi_n_list, isi_n_dict, isi_d_int, isi_d_bool, isi_d_str, isi_d_tuple, isi_d_list, isi_d_dict,
  deref_tup, deref_lst, deref_int, deref_str, deref_bl, deref_non, deref_scr, rLt_i, rLt_s, rLe_i, rLe_s, rInts_i, rInts0_i, rAdd_i, rAdd_s, rAdd_l, rAdd_t, rCatO_l, rNeg_i, rLen_t, rLen_l, rLen_c, rLen_s, rMax_i, rMin_i, rInt_i, rInt_b, rDivmod_i, ap_gAug, rStr_i, rList_l, rList_t, rListO_l, rListO_t, rTup_l, rTup_t,
  rIx_t0, rIx_t1, rIx_t2, rIx_t3, rIx_l0, rIx_l1, rIx_l2, rIsN_x, isNon_t, isNon_n, isNon_i, isNon_s, isNon_l, rEq_i, rEq_b, rEq_i2, rEq_b2, rJoin_m, rSplit_s, tyOk_l, tyOk_s, patD_nm, patD_tp, patDs_nil, patDs_cons, Option.bind_some, notX, notX',
  List.map_cons, List.map_nil, List.length_cons, List.length_nil, List.cons_append, List.nil_append, List.append_nil, List.replicate, List.getElem?_cons_zero, List.getElem?_cons_succ, List.set_cons_zero, List.set_cons_succ, updO_same, updO_updO,
  Nat.reduceSub, Nat.reduceAdd, Nat.reduceLeDiff, Nat.zero_add, Int.cast_ofNat_Int, Int.natCast_zero, Int.natCast_one, Int.reduceLT, Int.reduceLE, Int.reduceEq, Int.reduceAdd, Int.reduceSub, Int.reduceNeg, decide_true, decide_false, if_true, if_false, Bool.false_eq_true, eq_self, reduceIte, Bool.true_eq_false, decide_eq_true_eq, Bool.not_true, Bool.not_false, Bool.not_eq_true', decide_eq_false_iff_not, exists_eq_left', exists_eq_left, D.bl.injEq, true_and, and_true, not_true_eq_false, not_false_eq_true])
section
variable {P : Program} {w : World} {K : PySem.W.Frag} {mg : Str → Option Value} {base : Heap}
local macro_rules | `(tactic| walk_at "tg") => `(tactic| simp (config := { failIfUnchanged := false }) only [te_name_take, te_name_give, te_name_pair, te_name_first, te_name_second, te_name_to, te_name_both, te_name_one, te_name_mark, te_name_name, te_name_thing, te_name_at, te_thing_take, te_thing_give, te_thing_pair, te_thing_first, te_thing_second, te_thing_to, te_thing_both, te_thing_one, te_thing_mark, te_thing_name, te_thing_thing, te_thing_at, te_take_take, te_take_give, te_take_pair, te_take_first, te_take_second, te_take_to, te_take_both, te_take_one, te_take_mark, te_take_name, te_take_thing, te_take_at, te_give_take, te_give_give, te_give_pair, te_give_first, te_give_second, te_give_to, te_give_both, te_give_one, te_give_mark, te_give_name, te_give_thing, te_give_at, te_pair_take, te_pair_give, te_pair_pair, te_pair_first, te_pair_second, te_pair_to, te_pair_both, te_pair_one, te_pair_mark, te_pair_name, te_pair_thing, te_pair_at, te_first_take, te_first_give, te_first_pair, te_first_first, te_first_second, te_first_to, te_first_both, te_first_one, te_first_mark, te_first_name, te_first_thing, te_first_at, te_second_take, te_second_give, te_second_pair, te_second_first, te_second_second, te_second_to, te_second_both, te_second_one, te_second_mark, te_second_name, te_second_thing, te_second_at, te_mark_take, te_mark_give, te_mark_pair, te_mark_first, te_mark_second, te_mark_to, te_mark_both, te_mark_one, te_mark_mark, te_mark_name, te_mark_thing, te_mark_at, te_one_take, te_one_give, te_one_pair, te_one_first, te_one_second, te_one_to, te_one_both, te_one_one, te_one_mark, te_one_name, te_one_thing, te_one_at, te_to_take, te_to_give, te_to_pair, te_to_first, te_to_second, te_to_to, te_to_both, te_to_one, te_to_mark, te_to_name, te_to_thing, te_to_at, te_both_take, te_both_give, te_both_pair, te_both_first, te_both_second, te_both_to, te_both_both, te_both_one, te_both_mark, te_both_name, te_both_thing, te_both_at, te_at_take, te_at_give, te_at_pair, te_at_first, te_at_second, te_at_to, te_at_both, te_at_one, te_at_mark, te_at_name, te_at_thing, te_at_at, ti4_name, ti4_thing, ti4_take, ti4_give, ti4_pair, ti4_first, ti4_second, ti2_name, ti2_thing, ti2_take, ti2_give, ti2_pair, ti2_first, ti2_second, szT_0, szT_1, szT_2, szT_3, szT_4, szT_5, szT_6, szT_7, szT_8, szT_9, szT_10, szT_11, szT_12, Bool.not_true, Bool.not_false, true_and])
theorem ix_dI0 {i : Int} {r : List Int} {O : Ow} {Q : VD} : rIxD (dI (i :: r)) (.int 0) O Q = Q (.int i) O := rIx_l (ixC0 _ _)
theorem cut1_1 (a : D) : cut [a] (some 1) none = [] := by simp [cut, HT.sIx]
theorem sl1_1 {a : D} {O : Ow} {Q : VD} : rSlD (.tup [a]) (some 1) none O Q = Q (.tup []) O := by
  rw [rSl_t (by simp [HT.sIx]), cut1_1]
def spDressed (n : Nat) : DSp := fun ds O R _ => ∃ (b : Db) (m : Nat), ds = [dB b, .int m] ∧ b.hgt < n ∧ Wf b m ∧ m + b.hgt < 500 ∧ R (dP (dress b m)) O
theorem ok_dressed (T : Tx K mg) : ∀ n, FO__law_dressed P w base T (n + 1) (spDressed n)
  | 0 => none_left fun ds O R RE ⟨b, m, _, h, _⟩ => by omega
  | n + 1 => by
    refine fnd__law_dressed T (ok_dressed T n) (by walk_at "len") ?_
    rintro ds O R RE ⟨b, m, rfl, hn, hw, hm, hR⟩
    unfold g__law_dressed
    cases b with
    | «at» i =>
      simp only [Wf, Db.hgt] at hw hm
      simp only [dB, dress] at hR ⊢
      refine gSeq_step ?_
      walk_at "kf1"
      walk_at "tg"
      walk_at "kf1"
      rw [show (m : Int) - 1 - (i : Nat) = ((m - 1 - i : Nat) : Int) by omega]
      have z := xn_ok64 (m - 1 - i) (by omega)
      refine ⟨?_, sz_small (by omega), ?_⟩
      · rw [Int.natAbs_natCast]
        have h2 : Nat.log2 (m - 1 - i) ≤ m - 1 - i := Nat.log2_le_self _
        omega
      · walk_at "tg"
        exact hR
    | nm x =>
      simp only [dB, dress] at hR ⊢
      refine gSeq_step ?_
      walk_at "kf1"
      walk_at "tg"
      walk_at "kf1"
      refine gSeq_step ?_
      walk_at "kf1"
      walk_at "tg"
      walk_at "kf1"
      exact hR
    | take k b =>
      simp only [Wf, Db.hgt] at hw hm hn
      simp only [dB, dress] at hR ⊢
      refine gSeq_step ?_
      walk_at "kf1"
      walk_at "tg"
      walk_at "kf1"
      refine gSeq_step ?_
      walk_at "kf1"
      walk_at "tg"
      walk_at "kf1"
      refine gSeq_step ?_
      walk_at "kf1"
      walk_at "tg"
      walk_at "kf1"
      have z := xn_ok64 m (by omega)
      refine ⟨?_, sz_small (by omega), b, m + 1, rfl, by omega, hw, by omega, ?_⟩
      · rw [Int.natAbs_natCast]
        have h2 : Nat.log2 m ≤ m := Nat.log2_le_self _
        omega
      · walk_at "tg"
        exact hR
    | _ =>
      simp only [Wf, Db.hgt] at hw hm hn
      simp only [dB, dress] at hR ⊢
      refine gSeq_step ?_
      walk_at "kf1"
      walk_at "tg"
      walk_at "kf1"
      refine gSeq_step ?_
      walk_at "kf1"
      walk_at "tg"
      walk_at "kf1"
      refine gSeq_step ?_
      walk_at "kf1"
      walk_at "tg"
      walk_at "kf1"
      walk_at "tg"
      simp only [sl1_1, sl1_2, sl1_3]
      walk_at "kf1"
      first
        | exact ⟨by simp, sz_small (by decide), hR⟩
        | (refine ⟨_, m, rfl, by omega, hw, by omega, ?_⟩
           walk_at "kf1"
           refine ⟨by decide, ?_⟩
           walk_at "kf1"
           exact ⟨by simp, sz_small (by decide), hR⟩)
        | (refine ⟨_, m, rfl, by omega, hw.1, by omega, ?_⟩
           walk_at "kf1"
           refine ⟨by decide, ?_⟩
           walk_at "kf1"
           refine ⟨_, m, rfl, by omega, hw.2, by omega, ?_⟩
           walk_at "kf1"
           refine ⟨by decide, ?_⟩
           walk_at "kf1"
           exact ⟨by simp, sz_small (by decide), hR⟩)
theorem cm_small {a b : Int} (h : 0 ≤ a ∧ a < 1000) (h2 : 0 ≤ b ∧ b < 1000) : CMul a b := Or.inl ⟨by omega, by omega⟩
def spMoved (n : Nat) : DSp := fun ds O R _ => ∃ (b : Db) (f m : Nat), ds = [dB b, .int f, .int m] ∧ b.hgt < n ∧ b.ab 900 ∧ m < 900 ∧ R (dB (moved b f m)) O
theorem ok_moved (T : Tx K mg) : ∀ n, FO__law_moved P w base T (n + 1) (spMoved n)
  | 0 => none_left fun ds O R RE ⟨b, f, m, _, h, _⟩ => by omega
  | n + 1 => by
    refine fnd__law_moved T (ok_moved T n) (by walk_at "len") ?_
    rintro ds O R RE ⟨b, f, m, rfl, hn, hw, hm, hR⟩
    unfold g__law_moved
    cases b with
    | «at» i =>
      simp only [Db.ab] at hw
      simp only [dB, moved] at hR ⊢
      refine gSeq_step ?_
      walk_at "kf1"
      walk_at "tg"
      walk_at "kf1"
      by_cases c : f ≤ i
      · rw [if_pos c] at hR
        simp only [show ((f : Int) ≤ (i : Int)) from by omega, decide_true, if_true]
        refine ⟨cm_small (by omega) (by omega), ?_⟩
        walk_at "tg"
        rw [Int.mul_one]
        exact hR
      · rw [if_neg c] at hR
        simp only [show ¬ ((f : Int) ≤ (i : Int)) from by omega, decide_false, if_false, Bool.false_eq_true]
        refine ⟨cm_small (by omega) (by omega), ?_⟩
        walk_at "tg"
        rw [Int.mul_zero]
        exact hR
    | nm x =>
      simp only [dB, moved] at hR ⊢
      refine gSeq_step ?_
      walk_at "kf1"
      walk_at "tg"
      walk_at "kf1"
      refine gSeq_step ?_
      walk_at "kf1"
      walk_at "tg"
      walk_at "kf1"
      exact hR
    | take k b =>
      simp only [Db.ab, Db.hgt] at hw hn
      simp only [dB, moved] at hR ⊢
      refine gSeq_step ?_
      walk_at "kf1"
      walk_at "tg"
      walk_at "kf1"
      refine gSeq_step ?_
      walk_at "kf1"
      walk_at "tg"
      walk_at "kf1"
      refine gSeq_step ?_
      walk_at "kf1"
      walk_at "tg"
      walk_at "kf1"
      refine ⟨b, f + 1, m, rfl, by omega, hw, hm, ?_⟩
      walk_at "tg"
      exact hR
    | _ =>
      simp only [Db.ab, Db.hgt] at hw hn
      simp only [dB, moved] at hR ⊢
      refine gSeq_step ?_
      walk_at "kf1"
      walk_at "tg"
      walk_at "kf1"
      refine gSeq_step ?_
      walk_at "kf1"
      walk_at "tg"
      walk_at "kf1"
      refine gSeq_step ?_
      walk_at "kf1"
      walk_at "tg"
      walk_at "kf1"
      walk_at "tg"
      simp only [sl1_1, sl1_2, sl1_3]
      walk_at "kf1"
      first
        | exact ⟨by simp, sz_small (by decide), hR⟩
        | (refine ⟨_, f, m, rfl, by omega, hw, hm, ?_⟩
           walk_at "kf1"
           refine ⟨by decide, ?_⟩
           walk_at "kf1"
           exact ⟨by simp, sz_small (by decide), hR⟩)
        | (refine ⟨_, _, m, rfl, by omega, hw.1, hm, ?_⟩
           walk_at "kf1"
           refine ⟨by decide, ?_⟩
           walk_at "kf1"
           refine ⟨_, _, m, rfl, by omega, hw.2, hm, ?_⟩
           walk_at "kf1"
           refine ⟨by decide, ?_⟩
           walk_at "kf1"
           exact ⟨by simp, sz_small (by decide), hR⟩)
def spPutB (n : Nat) : DSp := fun ds O R _ => ∃ (b : Db) (t : Nat) (g : Db), ds = [dB b, .int t, dB g] ∧ b.hgt + g.hgt < n ∧ b.ab 900 ∧ g.ab 900 ∧ t + b.hgt < 900 ∧ R (dB (put b t g)) O
theorem ok_putB (T : Tx K mg) : ∀ n, FO__law_put P w base T (n + 2) (spPutB n)
  | 0 => none_left fun ds O R RE ⟨b, t, g, _, h, _⟩ => by omega
  | n + 1 => by
    refine fnd__law_put T (fnUp (ok_moved T (n + 1)) (by omega)) (ok_putB T n) (by walk_at "len") ?_
    rintro ds O R RE ⟨b, t, g, rfl, hn, hw, hg, ht, hR⟩
    unfold g__law_put
    cases b with
    | «at» i =>
      simp only [Db.ab, Db.hgt] at hw ht hn
      simp only [dB, put] at hR ⊢
      refine gSeq_step ?_
      walk_at "kf1"
      walk_at "tg"
      walk_at "kf1"
      refine gSeq_step ?_
      walk_at "kf1"
      by_cases c : i = t
      · rw [if_pos c] at hR
        rw [if_pos (show (i : Int) = (t : Int) by omega)]
        exact ⟨g, 0, t, rfl, by omega, hg, by omega, hR⟩
      · rw [if_neg c] at hR
        rw [if_neg (show ¬ (i : Int) = (t : Int) by omega)]
        try dsimp only
        walk_at "kf1"
        by_cases d : t < i
        · rw [if_pos d] at hR
          simp only [show ((t : Int) < (i : Int)) from by omega, decide_true, if_true]
          walk_at "tg"
          rw [show (i : Int) - 1 = ((i - 1 : Nat) : Int) by omega]
          exact hR
        · rw [if_neg d] at hR
          simp only [show ¬ ((t : Int) < (i : Int)) from by omega, decide_false, if_false, Bool.false_eq_true]
          walk_at "tg"
          rw [Int.sub_zero]
          exact hR
    | nm x =>
      simp only [dB, put] at hR ⊢
      refine gSeq_step ?_
      walk_at "kf1"
      walk_at "tg"
      walk_at "kf1"
      refine gSeq_step ?_
      walk_at "kf1"
      walk_at "tg"
      walk_at "kf1"
      exact hR
    | take k b =>
      simp only [Db.ab, Db.hgt] at hw hn ht
      simp only [dB, put] at hR ⊢
      refine gSeq_step ?_
      walk_at "kf1"
      walk_at "tg"
      walk_at "kf1"
      refine gSeq_step ?_
      walk_at "kf1"
      walk_at "tg"
      walk_at "kf1"
      refine gSeq_step ?_
      walk_at "kf1"
      walk_at "tg"
      walk_at "kf1"
      refine ⟨b, t + 1, g, rfl, by omega, hw, hg, by omega, ?_⟩
      walk_at "tg"
      exact hR
    | _ =>
      simp only [Db.ab, Db.hgt] at hw hn ht
      simp only [dB, put] at hR ⊢
      refine gSeq_step ?_
      walk_at "kf1"
      walk_at "tg"
      walk_at "kf1"
      refine gSeq_step ?_
      walk_at "kf1"
      walk_at "tg"
      walk_at "kf1"
      refine gSeq_step ?_
      walk_at "kf1"
      walk_at "tg"
      walk_at "kf1"
      walk_at "tg"
      simp only [sl1_1, sl1_2, sl1_3]
      walk_at "kf1"
      first
        | exact ⟨by simp, sz_small (by decide), hR⟩
        | (refine ⟨_, t, g, rfl, by omega, hw, hg, by omega, ?_⟩
           walk_at "kf1"
           refine ⟨by decide, ?_⟩
           walk_at "kf1"
           exact ⟨by simp, sz_small (by decide), hR⟩)
        | (refine ⟨_, t, g, rfl, by omega, hw.1, hg, by omega, ?_⟩
           walk_at "kf1"
           refine ⟨by decide, ?_⟩
           walk_at "kf1"
           refine ⟨_, t, g, rfl, by omega, hw.2, hg, by omega, ?_⟩
           walk_at "kf1"
           refine ⟨by decide, ?_⟩
           walk_at "kf1"
           exact ⟨by simp, sz_small (by decide), hR⟩)
theorem dpS1 : ∀ ts : List Str, PyData.depthAll (toPys (ts.map D.str)) = 0
  | [] => by simp [toPys, PyData.depthAll]
  | t :: ts => by simp only [List.map_cons, toPys, PyData.depthAll, toPy, PyData.depth, dpS1 ts]; rfl
theorem ri_find (x : Str) : ∀ c : List Str, (c.map D.str).findIdx? (fun z => deq z (.str x)) = ri c x
  | [] => rfl
  | y :: c => by
    rw [List.map_cons, List.findIdx?_cons, ri_find x c, deq_s]
    simp only [ri]
    by_cases h : y = x
    · rw [if_pos h, decide_eq_true h]; rfl
    · rw [if_neg h, decide_eq_false h]; rfl
theorem ri_some {x : Str} : ∀ {c : List Str}, x ∈ c → ∃ i, ri c x = some i
  | y :: c, h => by
    unfold ri
    by_cases e : y = x
    · exact ⟨0, if_pos e⟩
    · rw [if_neg e]
      rcases List.mem_cons.mp h with rfl | h
      · exact absurd rfl e
      · obtain ⟨i, hi⟩ := ri_some h
        exact ⟨i + 1, by rw [hi]; rfl⟩
theorem ri_out {x : Str} : ∀ {c : List Str}, x ∉ c → ri c x = none
  | [], _ => rfl
  | y :: c, h => by
    unfold ri
    rw [if_neg (fun q => h (by rw [q]; exact List.mem_cons_self)), ri_out fun q => h (List.mem_cons_of_mem _ q)]
    rfl
def spBare (n : Nat) : DSp := fun ds O R _ => ∃ (p : Pg) (c : List Str), ds = [dP p, .lst (c.reverse.map .str)] ∧ p.hgt < n ∧ p.sok = true ∧ (∀ y ∈ c, PyData.strOk y = true) ∧ c.length + p.hgt < 1000 ∧ R (dB (bare p c)) O
theorem ok_bare (T : Tx K mg) : ∀ n, FO__law_bare P w base T (n + 1) (spBare n)
  | 0 => none_left fun ds O R RE ⟨b, m, _, h, _⟩ => by omega
  | n + 1 => by
    refine fnd__law_bare T (ok_bare T n) (by walk_at "len") ?_
    rintro ds O R RE ⟨p, c, rfl, hn, hs, hc, hl, hR⟩
    unfold g__law_bare
    cases p with
    | nm x =>
      simp only [Pg.sok] at hs
      simp only [dP, bare] at hR ⊢
      refine gSeq_step ?_
      walk_at "kf1"
      walk_at "tg"
      walk_at "kf1"
      refine gSeq_step ?_
      walk_at "kf1"
      rw [rIn_strs hs (fun t ht => hc t (List.mem_reverse.mp ht))]
      walk_at "kf1"
      by_cases e : x ∈ c
      · rw [if_pos (by simpa using e)]
        obtain ⟨i, hi⟩ := ri_some e
        rw [hi] at hR
        rw [List.map_reverse, List.reverse_reverse]
        rw [rIndex_l (j := i) (isPys_strs hc) (by simpa only [deref, isPy] using hs) (by simp only [dp, toPy, PyData.depth, dpS1]; decide) (by simp [deref, dp, toPy, PyData.depth]) (by rw [deref_str, ri_find, hi])]
        walk_at "tg"
        exact hR
      · rw [if_neg (by simpa using e)]
        rw [ri_out e] at hR
        exact hR
    | take x k b =>
      simp only [Pg.sok, Pg.hgt, Bool.and_eq_true] at hs hl hn
      simp only [dP, bare] at hR ⊢
      refine gSeq_step ?_
      walk_at "kf1"
      walk_at "tg"
      walk_at "kf1"
      refine gSeq_step ?_
      walk_at "kf1"
      walk_at "tg"
      walk_at "kf1"
      walk_at "tg"
      refine ⟨sz_21 (by rw [List.length_map, List.length_reverse]; omega), b, x :: c, by simp, by omega, hs.2, fun y hy => ?_, by rw [List.length_cons]; omega, ?_⟩
      · rcases List.mem_cons.mp hy with rfl | hy
        · exact hs.1.1
        · exact hc y hy
      · walk_at "tg"
        exact hR
    | _ =>
      simp only [Pg.sok, Pg.hgt, Bool.and_eq_true] at hs hl hn
      simp only [dP, bare] at hR ⊢
      refine gSeq_step ?_
      walk_at "kf1"
      walk_at "tg"
      walk_at "kf1"
      refine gSeq_step ?_
      walk_at "kf1"
      walk_at "tg"
      walk_at "kf1"
      walk_at "tg"
      simp only [sl1_1, sl1_2, sl1_3]
      walk_at "kf1"
      first
        | exact ⟨by simp, sz_small (by decide), hR⟩
        | (refine ⟨_, c, rfl, by omega, hs, hc, by omega, ?_⟩
           walk_at "kf1"
           refine ⟨by decide, ?_⟩
           walk_at "kf1"
           exact ⟨by simp, sz_small (by decide), hR⟩)
        | (refine ⟨_, c, rfl, by omega, hs.1, hc, by omega, ?_⟩
           walk_at "kf1"
           refine ⟨by decide, ?_⟩
           walk_at "kf1"
           refine ⟨_, c, rfl, by omega, hs.2, hc, by omega, ?_⟩
           walk_at "kf1"
           refine ⟨by decide, ?_⟩
           walk_at "kf1"
           exact ⟨by simp, sz_small (by decide), hR⟩)
theorem dI_neN (i : Int) (pl : List Int) {O : Ow} {Q : VD} : rEqD true (dI (i :: pl)) (.lst []) O Q = Q (.bl true) O := by
  rw [rEq_nil (xs := (i :: pl).map D.int) rfl (isPys_ints _) (by have := dp_ints (i :: pl); omega)]
  rfl
theorem dI_nilN {O : Ow} {Q : VD} : rEqD true (dI []) (.lst []) O Q = Q (.bl false) O := by
  rw [rEq_nil (xs := []) rfl (by simp [isPys]) (by simp [dp, toPy, toPys, PyData.depth, PyData.depthAll])]
  rfl
theorem ixN_10 {a : D} : ixN (List.length [a]) 0 = some 0 := rfl
theorem ixN_20 {a b : D} : ixN (List.length [a, b]) 0 = some 0 := rfl
theorem ixN_21 {a b : D} : ixN (List.length [a, b]) 1 = some 1 := rfl
def spLStep (n : Nat) : DSp := fun ds O R _ => ∃ (b : Db) (m : Nat) (pl : List Int), ds = [dB b, dI pl] ∧ VdB b pl ∧ 2 * b.hgt < n ∧ Wf b m ∧ m + b.hgt < 500 ∧ R (dB (stepB b pl)) O
theorem ok_lstep (T : Tx K mg) : ∀ n, FO__law_step P w base T (n + 3) (spLStep n)
  | 0 => none_left fun ds O R RE ⟨b, m, pl, _, _, h, _⟩ => by omega
  | n + 1 => by
    refine fndG__law_step T (ok_lstep T n) (fnUp (ok_putB T n) (by omega)) (by walk_at "len") ?_
    rintro ds O R RE ⟨b, m, pl, rfl, hv, hn, hw, hm, hR⟩
    unfold g__law_step
    cases pl with
    | nil =>
      refine gSeq_step ?_
      walk_at "kf1"
      walk_at "tg"
      rw [dI_nilN]
      walk_at "kf1"
      cases b with
      | give f a =>
        obtain ⟨k, c, rfl⟩ := hv
        simp only [Db.hgt] at hm hn
        simp only [dB, stepB] at hR ⊢
        refine gSeq_step ?_
        walk_at "kf1"
        walk_at "tg"
        walk_at "kf1"
        refine ⟨c, 0, a, rfl, by omega, wf_ab c (m + 1) hw.1 (by omega), wf_ab a m hw.2 (by omega), by omega, .at hR⟩
      | first p =>
        obtain ⟨a, c, rfl⟩ := hv
        simp only [dB, stepB] at hR ⊢
        refine gSeq_step ?_
        walk_at "kf1"
        walk_at "tg"
        walk_at "kf1"
        walk_at "tg"
        walk_at "kf1"
        exact .at hR
      | second p =>
        obtain ⟨a, c, rfl⟩ := hv
        simp only [dB, stepB] at hR ⊢
        refine gSeq_step ?_
        walk_at "kf1"
        walk_at "tg"
        walk_at "kf1"
        walk_at "tg"
        walk_at "kf1"
        exact .at hR
      | _ => exact hv.elim
    | cons i r =>
      refine gSeq_step ?_
      walk_at "kf1"
      walk_at "tg"
      rw [dI_neN]
      walk_at "kf1"
      cases b with
      | take k b =>
        simp only [Db.hgt] at hm hn
        simp only [dB, stepB] at hR ⊢
        refine gSeq_step ?_
        walk_at "kf1"
        walk_at "tg"
        walk_at "kf1"
        rw [← List.map_cons, cut1_c]
        try simp only [ix_dI0]
        refine ⟨b, m + 1, r, rfl, hv.2, by omega, hw, by omega, ?_⟩
        walk_at "tg"
        exact .at hR
      | give f a =>
        simp only [Db.hgt] at hm hn
        simp only [dB, stepB] at hR ⊢
        refine gSeq_step ?_
        walk_at "kf1"
        walk_at "tg"
        walk_at "kf1"
        refine gSeq_step ?_
        walk_at "kf1"
        simp only [sl1_3]
        walk_at "kf1"
        intro p hp
        refine gSeq_step ?_
        walk_at "kf1"
        rw [← List.map_cons, cut1_c]
        try simp only [ix_dI0]
        rcases hv with ⟨rfl, hv⟩ | ⟨rfl, hv⟩
        · rw [rIx_r updO_same (ixC0 _ _)]
          refine ⟨f, m, r, rfl, hv, by omega, hw.1, by omega, ?_⟩
          dsimp only
          rw [rSet_r updO_same ixN_20]
          try dsimp only
          walk_at "kf1"
          simp only [rTup1, deref, updO_same]
          walk_at "kf1"
          walk_at "tg"
          exact ⟨by simp, .up hp hR⟩
        · rw [rIx_r updO_same (ixC1 _ _ _)]
          refine ⟨a, m, r, rfl, hv, by omega, hw.2, by omega, ?_⟩
          dsimp only
          rw [rSet_r updO_same ixN_21]
          try dsimp only
          walk_at "kf1"
          simp only [rTup1, deref, updO_same]
          walk_at "kf1"
          walk_at "tg"
          exact ⟨by simp, .up hp hR⟩
      | pair f a =>
        simp only [Db.hgt] at hm hn
        simp only [dB, stepB] at hR ⊢
        refine gSeq_step ?_
        walk_at "kf1"
        walk_at "tg"
        walk_at "kf1"
        refine gSeq_step ?_
        walk_at "kf1"
        simp only [sl1_3]
        walk_at "kf1"
        intro p hp
        refine gSeq_step ?_
        walk_at "kf1"
        rw [← List.map_cons, cut1_c]
        try simp only [ix_dI0]
        rcases hv with ⟨rfl, hv⟩ | ⟨rfl, hv⟩
        · rw [rIx_r updO_same (ixC0 _ _)]
          refine ⟨f, m, r, rfl, hv, by omega, hw.1, by omega, ?_⟩
          dsimp only
          rw [rSet_r updO_same ixN_20]
          try dsimp only
          walk_at "kf1"
          simp only [rTup1, deref, updO_same]
          walk_at "kf1"
          walk_at "tg"
          exact ⟨by simp, .up hp hR⟩
        · rw [rIx_r updO_same (ixC1 _ _ _)]
          refine ⟨a, m, r, rfl, hv, by omega, hw.2, by omega, ?_⟩
          dsimp only
          rw [rSet_r updO_same ixN_21]
          try dsimp only
          walk_at "kf1"
          simp only [rTup1, deref, updO_same]
          walk_at "kf1"
          walk_at "tg"
          exact ⟨by simp, .up hp hR⟩
      | first f =>
        simp only [Db.hgt] at hm hn
        simp only [dB, stepB] at hR ⊢
        refine gSeq_step ?_
        walk_at "kf1"
        walk_at "tg"
        walk_at "kf1"
        refine gSeq_step ?_
        walk_at "kf1"
        simp only [sl1_2]
        walk_at "kf1"
        intro p hp
        refine gSeq_step ?_
        walk_at "kf1"
        rw [← List.map_cons, cut1_c]
        try simp only [ix_dI0]
        obtain ⟨rfl, hv⟩ := hv
        rw [rIx_r updO_same (ixC0 _ _)]
        refine ⟨f, m, r, rfl, hv, by omega, hw, by omega, ?_⟩
        dsimp only
        rw [rSet_r updO_same ixN_10]
        try dsimp only
        walk_at "kf1"
        simp only [rTup1, deref, updO_same]
        walk_at "kf1"
        walk_at "tg"
        exact ⟨by simp, .up hp hR⟩
      | second f =>
        simp only [Db.hgt] at hm hn
        simp only [dB, stepB] at hR ⊢
        refine gSeq_step ?_
        walk_at "kf1"
        walk_at "tg"
        walk_at "kf1"
        refine gSeq_step ?_
        walk_at "kf1"
        simp only [sl1_2]
        walk_at "kf1"
        intro p hp
        refine gSeq_step ?_
        walk_at "kf1"
        rw [← List.map_cons, cut1_c]
        try simp only [ix_dI0]
        obtain ⟨rfl, hv⟩ := hv
        rw [rIx_r updO_same (ixC0 _ _)]
        refine ⟨f, m, r, rfl, hv, by omega, hw, by omega, ?_⟩
        dsimp only
        rw [rSet_r updO_same ixN_10]
        try dsimp only
        walk_at "kf1"
        simp only [rTup1, deref, updO_same]
        walk_at "kf1"
        walk_at "tg"
        exact ⟨by simp, .up hp hR⟩
      | _ => exact hv.elim
end
end Kf
namespace Kf
open PySem PySem.Spec L2
open PyProof.Rows hiding St
local macro_rules | `(tactic| walk_at "kf") => `(tactic| simp (config := { failIfUnchanged := false }) only [startD, ap_fiEnumT, asT1_t, ap_fKGet, asStr_s, ap_fKIn, ap_fKIx, ap_gAsgL, rUnl_l, ap_fiRng3, asR3_i, rSplitO_s, ap_fOrL, rOrL_l, ap_fLcK, ap_gForK, ap_fMaxD, rMaxD_l, rMaxL_l, ap_fCallXD, ap_gForE, asLE_l, ap_fFrz, ap_fDicO, ap_fDGet, ap_fDGet1, ap_fDGet2, ap_gDPut, ap_fIsiT, ap_gForR, rRep_l, isT_i, isT_s, isT_b, isT_n, isT_t, isT_l, ap_gSeq, ap_gIf, ap_gRet, ap_gNext, ap_gSet, ap_gAsg, ap_gDrop, ap_gRetF, ap_gRetN, ap_gFor, ap_gSetIx, ap_gBreak, ap_fRev, ap_fiRevR, asIR_i, rRev_l, ap_fCallX, ap_gRaise, ap_gTry, ap_gTryAs, ap_gNever, ap_fEdic, ap_fTest, ap_fOp, ap_fVar, envGet_s, patGet_s, ap_fC, ap_fCB, ap_fCons, ap_fNil, ap_fCall, ap_fAnd, ap_fOr, ap_fNot, ap_fAndV, ap_fOrV, ap_fNotV, ap_fIf, ap_fTup, ap_fLst, ap_fLstO, ap_fChain, ap_fUn, ap_fBM, ap_fBM0, ap_fPool, rPool_i, ap_fSl, ap_fPart, ap_fNoPart, asI_i, rSl_l, ap_fiRng1, ap_fiRng2, ap_fiList, ap_fiTup, ap_fiStr, ap_fiEnum, ap_fiZip, ap_fiRev, asL_l, asT_t, asSg_s, asR1_i, asR2_i, asL1_l, asL2_l, ap_fLc, ap_fLcO, ap_fYes, wipeD, lcD, isi_i_int, isi_i_bool, isi_i_str, isi_i_tuple, isi_i_list, isi_i_dict, isi_b_int, isi_b_bool, isi_b_str, isi_b_tuple, isi_b_list, isi_b_dict, isi_s_int, isi_s_bool, isi_s_str, isi_s_tuple, isi_s_list, isi_s_dict, isi_t_int, isi_t_bool, isi_t_str, isi_t_tuple, isi_t_list, isi_t_dict, isi_l_int, isi_l_bool, isi_l_str, isi_l_tuple, isi_l_list, isi_l_dict, isi_n_int, isi_n_bool, isi_n_str, isi_n_tuple, isi_n_list, isi_n_dict, isi_d_int, isi_d_bool, isi_d_str, isi_d_tuple, isi_d_list, isi_d_dict,
  deref_tup, deref_lst, deref_int, deref_str, deref_bl, deref_non, deref_scr, rLt_i, rLt_s, rLe_i, rLe_s, rInts_i, rInts0_i, rAdd_i, rAdd_s, rAdd_l, rAdd_t, rCatO_l, rNeg_i, rLen_t, rLen_l, rLen_c, rLen_s, rMax_i, rMin_i, rInt_i, rInt_b, rDivmod_i, ap_gAug, rStr_i, rList_l, rList_t, rListO_l, rListO_t, rTup_l, rTup_t,
  rIx_t0, rIx_t1, rIx_t2, rIx_t3, rIx_l0, rIx_l1, rIx_l2, rIsN_x, isNon_t, isNon_n, isNon_i, isNon_s, isNon_l, rEq_i, rEq_b, rEq_i2, rEq_b2, rJoin_m, rSplit_s, tyOk_l, tyOk_s, patD_nm, patD_tp, patDs_nil, patDs_cons, Option.bind_some, notX, notX',
  List.map_cons, List.map_nil, List.length_cons, List.length_nil, List.cons_append, List.nil_append, List.append_nil, List.replicate, List.getElem?_cons_zero, List.getElem?_cons_succ, List.set_cons_zero, List.set_cons_succ, updO_same, updO_updO,
  Nat.reduceSub, Nat.reduceAdd, Nat.reduceLeDiff, Nat.zero_add, Int.cast_ofNat_Int, Int.natCast_zero, Int.natCast_one, Int.reduceLT, Int.reduceLE, Int.reduceEq, Int.reduceAdd, Int.reduceSub, Int.reduceNeg, decide_true, decide_false, if_true, if_false, Bool.false_eq_true, eq_self, reduceIte, Bool.true_eq_false, decide_eq_true_eq, Bool.not_true, Bool.not_false, Bool.not_eq_true', decide_eq_false_iff_not, exists_eq_left', exists_eq_left, D.bl.injEq, true_and, and_true, not_true_eq_false, not_false_eq_true])
local macro_rules | `(tactic| walk_at "len") => `(tactic| (intro ds O R RE h; first | (obtain ⟨e, _⟩ := h; subst e; rfl) | (obtain ⟨_, e, _⟩ := h; subst e; rfl) | (obtain ⟨_, _, e, _⟩ := h; subst e; rfl) | (obtain ⟨_, _, _, e, _⟩ := h; subst e; rfl) | (obtain ⟨_, _, _, _, e, _⟩ := h; subst e; rfl) | (obtain ⟨_, _, _, _, _, e, _⟩ := h; subst e; rfl) | (obtain ⟨_, _, _, _, _, _, e, _⟩ := h; subst e; rfl) | (obtain ⟨_, _, _, _, _, _, _, e, _⟩ := h; subst e; rfl) | (obtain ⟨_, _, _, _, _, _, _, _, e, _⟩ := h; subst e; rfl) | (obtain ⟨_, _, _, _, _, _, _, _, _, e, _⟩ := h; subst e; rfl)))
local macro_rules | `(tactic| walk_at "kf1") => `(tactic| simp (config := { failIfUnchanged := false }) only [startD, ap_fiEnumT, asT1_t, ap_fKGet, asStr_s, ap_fKIn, ap_fKIx, ap_gAsgL, rUnl_l, ap_fiRng3, asR3_i, rSplitO_s, ap_fOrL, rOrL_l, ap_fLcK, ap_gForK, ap_fMaxD, rMaxD_l, rMaxL_l, ap_fCallXD, ap_gForE, asLE_l, ap_fFrz, ap_fDicO, ap_fDGet, ap_fDGet1, ap_fDGet2, ap_gDPut, ap_fIsiT, ap_gForR, rRep_l, isT_i, isT_s, isT_b, isT_n, isT_t, isT_l, ap_gIf, ap_gRet, ap_gNext, ap_gSet, ap_gAsg, ap_gDrop, ap_gRetF, ap_gRetN, ap_gFor, ap_gSetIx, ap_gBreak, ap_fRev, ap_fiRevR, asIR_i, rRev_l, ap_fCallX, ap_gRaise, ap_gTry, ap_gTryAs, ap_gNever, ap_fEdic, ap_fTest, ap_fOp, ap_fVar, envGet_s, patGet_s, ap_fC, ap_fCB, ap_fCons, ap_fNil, ap_fCall, ap_fAnd, ap_fOr, ap_fNot, ap_fAndV, ap_fOrV, ap_fNotV, ap_fIf, ap_fTup, ap_fLst, ap_fLstO, ap_fChain, ap_fUn, ap_fBM, ap_fBM0, ap_fPool, rPool_i, ap_fSl, ap_fPart, ap_fNoPart, asI_i, rSl_l, ap_fiRng1, ap_fiRng2, ap_fiList, ap_fiTup, ap_fiStr, ap_fiEnum, ap_fiZip, ap_fiRev, asL_l, asT_t, asSg_s, asR1_i, asR2_i, asL1_l, asL2_l, ap_fLc, ap_fLcO, ap_fYes, wipeD, lcD, isi_i_int, isi_i_bool, isi_i_str, isi_i_tuple, isi_i_list, isi_i_dict, isi_b_int, isi_b_bool, isi_b_str, isi_b_tuple, isi_b_list, isi_b_dict, isi_s_int, isi_s_bool, isi_s_str, isi_s_tuple, isi_s_list, isi_s_dict, isi_t_int, isi_t_bool, isi_t_str, isi_t_tuple, isi_t_list, isi_t_dict, isi_l_int, isi_l_bool, isi_l_str, isi_l_tuple, isi_l_list, isi_l_dict, isi_n_int, isi_n_bool, isi_n_str, isi_n_tuple, isi_n_list, isi_n_dict, isi_d_int, isi_d_bool, isi_d_str, isi_d_tuple, isi_d_list, isi_d_dict,
  deref_tup, deref_lst, deref_int, deref_str, deref_bl, deref_non, deref_scr, rLt_i, rLt_s, rLe_i, rLe_s, rInts_i, rInts0_i, rAdd_i, rAdd_s, rAdd_l, rAdd_t, rCatO_l, rNeg_i, rLen_t, rLen_l, rLen_c, rLen_s, rMax_i, rMin_i, rInt_i, rInt_b, rDivmod_i, ap_gAug, rStr_i, rList_l, rList_t, rListO_l, rListO_t, rTup_l, rTup_t,
  rIx_t0, rIx_t1, rIx_t2, rIx_t3, rIx_l0, rIx_l1, rIx_l2, rIsN_x, isNon_t, isNon_n, isNon_i, isNon_s, isNon_l, rEq_i, rEq_b, rEq_i2, rEq_b2, rJoin_m, rSplit_s, tyOk_l, tyOk_s, patD_nm, patD_tp, patDs_nil, patDs_cons, Option.bind_some, notX, notX',
  List.map_cons, List.map_nil, List.length_cons, List.length_nil, List.cons_append, List.nil_append, List.append_nil, List.replicate, List.getElem?_cons_zero, List.getElem?_cons_succ, List.set_cons_zero, List.set_cons_succ, updO_same, updO_updO,
  Nat.reduceSub, Nat.reduceAdd, Nat.reduceLeDiff, Nat.zero_add, Int.cast_ofNat_Int, Int.natCast_zero, Int.natCast_one, Int.reduceLT, Int.reduceLE, Int.reduceEq, Int.reduceAdd, Int.reduceSub, Int.reduceNeg, decide_true, decide_false, if_true, if_false, Bool.false_eq_true, eq_self, reduceIte, Bool.true_eq_false, decide_eq_true_eq, Bool.not_true, Bool.not_false, Bool.not_eq_true', decide_eq_false_iff_not, exists_eq_left', exists_eq_left, D.bl.injEq, true_and, and_true, not_true_eq_false, not_false_eq_true])
section
variable {P : Program} {w : World} {K : PySem.W.Frag} {mg : Str → Option Value} {base : Heap}
local macro_rules | `(tactic| walk_at "tg") => `(tactic| simp (config := { failIfUnchanged := false }) only [te_name_take, te_name_give, te_name_pair, te_name_first, te_name_second, te_name_to, te_name_both, te_name_one, te_name_mark, te_name_name, te_name_thing, te_name_at, te_thing_take, te_thing_give, te_thing_pair, te_thing_first, te_thing_second, te_thing_to, te_thing_both, te_thing_one, te_thing_mark, te_thing_name, te_thing_thing, te_thing_at, te_take_take, te_take_give, te_take_pair, te_take_first, te_take_second, te_take_to, te_take_both, te_take_one, te_take_mark, te_take_name, te_take_thing, te_take_at, te_give_take, te_give_give, te_give_pair, te_give_first, te_give_second, te_give_to, te_give_both, te_give_one, te_give_mark, te_give_name, te_give_thing, te_give_at, te_pair_take, te_pair_give, te_pair_pair, te_pair_first, te_pair_second, te_pair_to, te_pair_both, te_pair_one, te_pair_mark, te_pair_name, te_pair_thing, te_pair_at, te_first_take, te_first_give, te_first_pair, te_first_first, te_first_second, te_first_to, te_first_both, te_first_one, te_first_mark, te_first_name, te_first_thing, te_first_at, te_second_take, te_second_give, te_second_pair, te_second_first, te_second_second, te_second_to, te_second_both, te_second_one, te_second_mark, te_second_name, te_second_thing, te_second_at, te_mark_take, te_mark_give, te_mark_pair, te_mark_first, te_mark_second, te_mark_to, te_mark_both, te_mark_one, te_mark_mark, te_mark_name, te_mark_thing, te_mark_at, te_one_take, te_one_give, te_one_pair, te_one_first, te_one_second, te_one_to, te_one_both, te_one_one, te_one_mark, te_one_name, te_one_thing, te_one_at, te_to_take, te_to_give, te_to_pair, te_to_first, te_to_second, te_to_to, te_to_both, te_to_one, te_to_mark, te_to_name, te_to_thing, te_to_at, te_both_take, te_both_give, te_both_pair, te_both_first, te_both_second, te_both_to, te_both_both, te_both_one, te_both_mark, te_both_name, te_both_thing, te_both_at, te_at_take, te_at_give, te_at_pair, te_at_first, te_at_second, te_at_to, te_at_both, te_at_one, te_at_mark, te_at_name, te_at_thing, te_at_at, ti4_name, ti4_thing, ti4_take, ti4_give, ti4_pair, ti4_first, ti4_second, ti2_name, ti2_thing, ti2_take, ti2_give, ti2_pair, ti2_first, ti2_second, szT_0, szT_1, szT_2, szT_3, szT_4, szT_5, szT_6, szT_7, szT_8, szT_9, szT_10, szT_11, szT_12, Bool.not_true, Bool.not_false, true_and])
def spLRun : DSp := fun ds O R _ => ∃ (b : Db) (pks : List Int), ds = [dB b, .lst (pks.map .int)] ∧ Good b ∧ pks.length ≤ 1000 ∧
  (∀ b' log, runB pks 200 0 b [] = some (b', log) → R (.tup [dP (dress b' 0), .lst (log.map dI)]) O) ∧ (runB pks 200 0 b [] = none → R .non O)
/-- the pick that the law takes -/
def lpk (pks : List Int) (t : Nat) : Int := if pks = [] then 0 else pks.getD (t % pks.length) 0
theorem lpk_at (pks : List Int) (t : Nat) : atI ((pks ++ [0]).map D.int) ((t : Int) % (if (pks.length : Int) > 1 then (pks.length : Int) else 1)) = some (.int (lpk pks t)) := by
  have e : (t : Int) % (if (pks.length : Int) > 1 then (pks.length : Int) else 1) = ((t % (if pks.length > 1 then pks.length else 1) : Nat) : Int) := by
    split
    · rename_i h
      rw [if_pos (by omega), Int.natCast_emod]
    · rename_i h
      rw [if_neg (by omega)]; omega
  rw [e]
  refine atI_nat ?_
  cases pks with
  | nil => simp [Nat.mod_one, lpk]
  | cons a r =>
    have e3 : lpk (a :: r) t = (a :: r).getD (t % (a :: r).length) 0 := by unfold lpk; rw [if_neg (by simp)]
    have e2 : (if (a :: r).length > 1 then (a :: r).length else 1) = (a :: r).length := by
      split
      · rfl
      · rename_i h; rw [List.length_cons] at h ⊢; omega
    rw [e2, e3]
    have hk : t % (a :: r).length < (a :: r).length := Nat.mod_lt _ (by simp)
    rw [List.getElem?_map, List.getElem?_append_left hk, List.getElem?_eq_getElem hk, List.getD_eq_getElem?_getD, List.getElem?_eq_getElem hk]
    rfl
theorem lpk_pick (pks : List Int) (t n : Nat) (hn : 0 < n) : lpk pks t % (n : Int) = ((pickN pks t n : Nat) : Int) := by
  unfold lpk pickN
  split
  · simp
  · have := Int.emod_nonneg (pks.getD (t % pks.length) 0) (show (n : Int) ≠ 0 by omega)
    omega
theorem range_at {n : Nat} {pre rest : List Nat} {x : Nat} (h : List.range n = pre ++ x :: rest) : x = pre.length ∧ pre.length < n := by
  have h1 : (List.range n)[pre.length]? = some x := by rw [h]; simp
  have h2 : pre.length < n := by
    have := congrArg List.length h
    rw [List.length_range, List.length_append, List.length_cons] at this
    omega
  rw [List.getElem?_eq_getElem (by rw [List.length_range]; exact h2), List.getElem_range] at h1
  exact ⟨(Option.some.inj h1).symm, h2⟩
theorem ok_lrun (T : Tx K mg) : FO__law_run P w base T 205 spLRun := by
  refine fndG__law_run T (fnUp (ok_lplacesB T 101) (by omega)) (fnUp (ok_dressed T 101) (by omega)) (fnUp (ok_lstep T 201) (by omega)) (fnUp (ok_lparts T 202) (by omega)) (fnUp (ok_lhigh T 202) (by omega)) (by walk_at "len") ?_
  rintro ds O R RE ⟨b, pks, rfl, hg, hpl, hR, hN⟩
  unfold g__law_run
  refine gSeq_step ?_
  walk_at "kf1"
  walk_at "tg"
  intro lg hlg
  refine gSeq_step ?_
  walk_at "kf1"
  refine ⟨by decide, by decide, ?_⟩
  rw [rangeD_map]
  refine forA_ix (fun i : Nat => D.int (0 + (i : Int))) (fun pre _ ρ O' => ∃ b' log x3 x4 x5, ρ = [some (dB b'), some (.lst (pks.map .int)), some (.ref lg), x3, x4, x5] ∧ O' = updO O lg (.lst (log.map dI)) ∧ Good b' ∧ log.length = pre.length ∧ pre.length ≤ 200 ∧ runB pks (200 - pre.length) pre.length b' log = runB pks 200 0 b []) (List.range 201) [] _ _ ⟨b, [], _, _, _, rfl, rfl, hg, rfl, by simp, rfl⟩ ?_ ?_
  · rintro ρ O' ⟨b', log, x3, x4, x5, rfl, rfl, _, _, h, _⟩
    rw [List.nil_append, List.length_range] at h
    omega
  · rintro pre x rest ep ρ O' ⟨b', log, x3, x4, x5, rfl, rfl, g', hlog, hpre, hrun⟩ N hNx
    rw [List.nil_append] at ep
    obtain ⟨rfl, hx⟩ := range_at ep
    generalize ht : pre.length = t at *
    have hgh := g'.hg
    have hgz := g'.sz
    walk_at "kf1"
    refine gSeq_step ?_
    walk_at "kf1"
    walk_at "tg"
    refine ⟨b', [], rfl, by omega, by simp only [List.length_nil]; omega, hgz, ?_⟩
    try dsimp only
    refine gSeq_step ?_
    walk_at "kf1"
    walk_at "tg"
    rw [rEq_nilA (xs := (plcB b' []).map dI) rfl (isPys_dI _)]
    cases e : plcB b' [] with
    | nil =>
      simp only [List.map_nil, List.isEmpty_nil, Bool.false_xor]
      walk_at "kf1"
      rw [gFrz_at hlg rfl]
      walk_at "kf1"
      refine ⟨b', 0, rfl, by omega, g'.wf, by omega, ?_⟩
      walk_at "tg"
      rw [runB_nil e] at hrun
      exact .at (hR b' log hrun.symm)
    | cons c r =>
      have hne : plcB b' [] ≠ [] := by rw [e]; simp
      have hpos : 0 < (plcB b' []).length := List.length_pos_iff.mpr hne
      rw [← e]
      have e0 : ((plcB b' []).map dI).isEmpty = false := by rw [e]; rfl
      rw [e0]
      walk_at "kf1"
      refine gSeq_step ?_
      walk_at "kf1"
      rw [Int.zero_add]
      split
      · rename_i h200
        have h200' : t = 200 := by omega
        refine .up hlg (hN ?_)
        rw [← hrun, h200']
        simp [runB, hne]
      · rename_i h200
        obtain ⟨k, hk⟩ : ∃ k, 200 - t = k + 1 := ⟨199 - t, by omega⟩
        try dsimp only
        refine gSeq_step ?_
        walk_at "kf1"
        walk_at "tg"
        refine ⟨sz_small (by rw [List.length_map]; omega), ?_⟩
        rw [List.length_map]
        refine ⟨by split <;> omega, ?_⟩
        have e1 := lpk_at pks t
        rw [List.map_append, List.map_cons, List.map_nil] at e1
        rw [rIx_l e1]
        try dsimp only
        walk_at "kf1"
        rw [List.length_map]
        refine ⟨by omega, ?_⟩
        try dsimp only
        have hkk := pickN_lt (pks := pks) (t := t) hpos
        have e2 : atI ((plcB b' []).map dI) ((pickN pks t (plcB b' []).length : Nat) : Int) = some (dI (pickB pks t b')) := by
          refine atI_nat ?_
          unfold pickB
          rw [List.getElem?_map, List.getElem?_eq_getElem hkk, List.getD_eq_getElem?_getD, List.getElem?_eq_getElem hkk]
          rfl
        rw [lpk_pick pks t _ hpos, rIx_l e2]
        try dsimp only
        have hpm := pickB_mem (pks := pks) (t := t) hne
        generalize hple : pickB pks t b' = pl at hpm ⊢
        obtain ⟨f1, f2, f3, f4, f5, f6, f7⟩ := place_facts g' hpm
        refine gSeq_step ?_
        walk_at "kf1"
        refine ⟨b', 0, pl, rfl, f2, by omega, g'.wf, by omega, ?_⟩
        try dsimp only
        refine gSeq_step ?_
        walk_at "kf1"
        refine ⟨stepB b' pl, rfl, by omega, ?_⟩
        walk_at "kf1"
        have bad : (1500 < (stepB b' pl).psz ∨ 100 < (stepB b' pl).hgt) → VG R .non (updO O lg (.lst (log.map dI))) := fun h => by
          refine .up hlg (hN ?_)
          rw [← hrun, hk]
          unfold runB
          rw [if_neg hne, hple, if_pos h]
        split
        · exact bad (.inl (by omega))
        · rename_i hsm
          refine ⟨stepB b' pl, rfl, by omega, ?_⟩
          walk_at "kf1"
          split
          · exact bad (.inr (by omega))
          · rename_i hsm2
            have hcond : ¬ (1500 < (stepB b' pl).psz ∨ 100 < (stepB b' pl).hgt) := by omega
            try dsimp only
            walk_at "kf1"
            refine ⟨tyOk_r updO_same, ?_⟩
            rw [rApp_r updO_same]
            refine ⟨Nat.lt_of_lt_of_le (show (log.map dI).length < 201 by rw [List.length_map]; omega) (by decide), ?_⟩
            rw [updO_updO]
            refine hNx _ _ ⟨stepB b' pl, log ++ [pl], _, _, _, rfl, by rw [List.map_append]; rfl, good_step g' hpm hcond, by rw [List.length_append, List.length_append, List.length_singleton, List.length_singleton]; omega, by rw [List.length_append, List.length_singleton]; omega, ?_⟩
            rw [← hrun, hk, List.length_append, List.length_singleton, ht]
            conv => rhs; unfold runB
            rw [if_neg hne, hple, if_neg hcond, show 200 - (t + 1) = k by omega]
end
end Kf
namespace Kf
open PySem PySem.Spec L2
open PyProof.Rows hiding St
local macro_rules | `(tactic| walk_at "kf") => `(tactic| simp (config := { failIfUnchanged := false }) only [startD, ap_fiEnumT, asT1_t, ap_fKGet, asStr_s, ap_fKIn, ap_fKIx, ap_gAsgL, rUnl_l, ap_fiRng3, asR3_i, rSplitO_s, ap_fOrL, rOrL_l, ap_fLcK, ap_gForK, ap_fMaxD, rMaxD_l, rMaxL_l, ap_fCallXD, ap_gForE, asLE_l, ap_fFrz, ap_fDicO, ap_fDGet, ap_fDGet1, ap_fDGet2, ap_gDPut, ap_fIsiT, ap_gForR, rRep_l, isT_i, isT_s, isT_b, isT_n, isT_t, isT_l, ap_gSeq, ap_gIf, ap_gRet, ap_gNext, ap_gSet, ap_gAsg, ap_gDrop, ap_gRetF, ap_gRetN, ap_gFor, ap_gSetIx, ap_gBreak, ap_fRev, ap_fiRevR, asIR_i, rRev_l, ap_fCallX, ap_gRaise, ap_gTry, ap_gTryAs, ap_gNever, ap_fEdic, ap_fTest, ap_fOp, ap_fVar, envGet_s, patGet_s, ap_fC, ap_fCB, ap_fCons, ap_fNil, ap_fCall, ap_fAnd, ap_fOr, ap_fNot, ap_fAndV, ap_fOrV, ap_fNotV, ap_fIf, ap_fTup, ap_fLst, ap_fLstO, ap_fChain, ap_fUn, ap_fBM, ap_fBM0, ap_fPool, rPool_i, ap_fSl, ap_fPart, ap_fNoPart, asI_i, rSl_l, ap_fiRng1, ap_fiRng2, ap_fiList, ap_fiTup, ap_fiStr, ap_fiEnum, ap_fiZip, ap_fiRev, asL_l, asT_t, asSg_s, asR1_i, asR2_i, asL1_l, asL2_l, ap_fLc, ap_fLcO, ap_fYes, wipeD, lcD, isi_i_int, isi_i_bool, isi_i_str, isi_i_tuple, isi_i_list, isi_i_dict, isi_b_int, isi_b_bool, isi_b_str, isi_b_tuple, isi_b_list, isi_b_dict, isi_s_int, isi_s_bool, isi_s_str, isi_s_tuple, isi_s_list, isi_s_dict, isi_t_int, isi_t_bool, isi_t_str, isi_t_tuple, isi_t_list, isi_t_dict, isi_l_int, isi_l_bool, isi_l_str, isi_l_tuple, isi_l_list, isi_l_dict, isi_n_int, isi_n_bool, isi_n_str, isi_n_tuple, isi_n_list, isi_n_dict, isi_d_int, isi_d_bool, isi_d_str, isi_d_tuple, isi_d_list, isi_d_dict,
  deref_tup, deref_lst, deref_int, deref_str, deref_bl, deref_non, deref_scr, rLt_i, rLt_s, rLe_i, rLe_s, rInts_i, rInts0_i, rAdd_i, rAdd_s, rAdd_l, rAdd_t, rCatO_l, rNeg_i, rLen_t, rLen_l, rLen_c, rLen_s, rMax_i, rMin_i, rInt_i, rInt_b, rDivmod_i, ap_gAug, rStr_i, rList_l, rList_t, rListO_l, rListO_t, rTup_l, rTup_t,
  rIx_t0, rIx_t1, rIx_t2, rIx_t3, rIx_l0, rIx_l1, rIx_l2, rIsN_x, isNon_t, isNon_n, isNon_i, isNon_s, isNon_l, rEq_i, rEq_b, rEq_i2, rEq_b2, rJoin_m, rSplit_s, tyOk_l, tyOk_s, patD_nm, patD_tp, patDs_nil, patDs_cons, Option.bind_some, notX, notX',
  List.map_cons, List.map_nil, List.length_cons, List.length_nil, List.cons_append, List.nil_append, List.append_nil, List.replicate, List.getElem?_cons_zero, List.getElem?_cons_succ, List.set_cons_zero, List.set_cons_succ, updO_same, updO_updO,
  Nat.reduceSub, Nat.reduceAdd, Nat.reduceLeDiff, Nat.zero_add, Int.cast_ofNat_Int, Int.natCast_zero, Int.natCast_one, Int.reduceLT, Int.reduceLE, Int.reduceEq, Int.reduceAdd, Int.reduceSub, Int.reduceNeg, decide_true, decide_false, if_true, if_false, Bool.false_eq_true, eq_self, reduceIte, Bool.true_eq_false, decide_eq_true_eq, Bool.not_true, Bool.not_false, Bool.not_eq_true', decide_eq_false_iff_not, exists_eq_left', exists_eq_left, D.bl.injEq, true_and, and_true, not_true_eq_false, not_false_eq_true])
local macro_rules | `(tactic| walk_at "len") => `(tactic| (intro ds O R RE h; first | (obtain ⟨e, _⟩ := h; subst e; rfl) | (obtain ⟨_, e, _⟩ := h; subst e; rfl) | (obtain ⟨_, _, e, _⟩ := h; subst e; rfl) | (obtain ⟨_, _, _, e, _⟩ := h; subst e; rfl) | (obtain ⟨_, _, _, _, e, _⟩ := h; subst e; rfl) | (obtain ⟨_, _, _, _, _, e, _⟩ := h; subst e; rfl) | (obtain ⟨_, _, _, _, _, _, e, _⟩ := h; subst e; rfl) | (obtain ⟨_, _, _, _, _, _, _, e, _⟩ := h; subst e; rfl) | (obtain ⟨_, _, _, _, _, _, _, _, e, _⟩ := h; subst e; rfl) | (obtain ⟨_, _, _, _, _, _, _, _, _, e, _⟩ := h; subst e; rfl)))
local macro_rules | `(tactic| walk_at "kf1") => `(tactic| simp (config := { failIfUnchanged := false }) only [startD, ap_fiEnumT, asT1_t, ap_fKGet, asStr_s, ap_fKIn, ap_fKIx, ap_gAsgL, rUnl_l, ap_fiRng3, asR3_i, rSplitO_s, ap_fOrL, rOrL_l, ap_fLcK, ap_gForK, ap_fMaxD, rMaxD_l, rMaxL_l, ap_fCallXD, ap_gForE, asLE_l, ap_fFrz, ap_fDicO, ap_fDGet, ap_fDGet1, ap_fDGet2, ap_gDPut, ap_fIsiT, ap_gForR, rRep_l, isT_i, isT_s, isT_b, isT_n, isT_t, isT_l, ap_gIf, ap_gRet, ap_gNext, ap_gSet, ap_gAsg, ap_gDrop, ap_gRetF, ap_gRetN, ap_gFor, ap_gSetIx, ap_gBreak, ap_fRev, ap_fiRevR, asIR_i, rRev_l, ap_fCallX, ap_gRaise, ap_gTry, ap_gTryAs, ap_gNever, ap_fEdic, ap_fTest, ap_fOp, ap_fVar, envGet_s, patGet_s, ap_fC, ap_fCB, ap_fCons, ap_fNil, ap_fCall, ap_fAnd, ap_fOr, ap_fNot, ap_fAndV, ap_fOrV, ap_fNotV, ap_fIf, ap_fTup, ap_fLst, ap_fLstO, ap_fChain, ap_fUn, ap_fBM, ap_fBM0, ap_fPool, rPool_i, ap_fSl, ap_fPart, ap_fNoPart, asI_i, rSl_l, ap_fiRng1, ap_fiRng2, ap_fiList, ap_fiTup, ap_fiStr, ap_fiEnum, ap_fiZip, ap_fiRev, asL_l, asT_t, asSg_s, asR1_i, asR2_i, asL1_l, asL2_l, ap_fLc, ap_fLcO, ap_fYes, wipeD, lcD, isi_i_int, isi_i_bool, isi_i_str, isi_i_tuple, isi_i_list, isi_i_dict, isi_b_int, isi_b_bool, isi_b_str, isi_b_tuple, isi_b_list, isi_b_dict, isi_s_int, isi_s_bool, isi_s_str, isi_s_tuple, isi_s_list, isi_s_dict, isi_t_int, isi_t_bool, isi_t_str, isi_t_tuple, isi_t_list, isi_t_dict, isi_l_int, isi_l_bool, isi_l_str, isi_l_tuple, isi_l_list, isi_l_dict, isi_n_int, isi_n_bool, isi_n_str, isi_n_tuple, isi_n_list, isi_n_dict, isi_d_int, isi_d_bool, isi_d_str, isi_d_tuple, isi_d_list, isi_d_dict,
  deref_tup, deref_lst, deref_int, deref_str, deref_bl, deref_non, deref_scr, rLt_i, rLt_s, rLe_i, rLe_s, rInts_i, rInts0_i, rAdd_i, rAdd_s, rAdd_l, rAdd_t, rCatO_l, rNeg_i, rLen_t, rLen_l, rLen_c, rLen_s, rMax_i, rMin_i, rInt_i, rInt_b, rDivmod_i, ap_gAug, rStr_i, rList_l, rList_t, rListO_l, rListO_t, rTup_l, rTup_t,
  rIx_t0, rIx_t1, rIx_t2, rIx_t3, rIx_l0, rIx_l1, rIx_l2, rIsN_x, isNon_t, isNon_n, isNon_i, isNon_s, isNon_l, rEq_i, rEq_b, rEq_i2, rEq_b2, rJoin_m, rSplit_s, tyOk_l, tyOk_s, patD_nm, patD_tp, patDs_nil, patDs_cons, Option.bind_some, notX, notX',
  List.map_cons, List.map_nil, List.length_cons, List.length_nil, List.cons_append, List.nil_append, List.append_nil, List.replicate, List.getElem?_cons_zero, List.getElem?_cons_succ, List.set_cons_zero, List.set_cons_succ, updO_same, updO_updO,
  Nat.reduceSub, Nat.reduceAdd, Nat.reduceLeDiff, Nat.zero_add, Int.cast_ofNat_Int, Int.natCast_zero, Int.natCast_one, Int.reduceLT, Int.reduceLE, Int.reduceEq, Int.reduceAdd, Int.reduceSub, Int.reduceNeg, decide_true, decide_false, if_true, if_false, Bool.false_eq_true, eq_self, reduceIte, Bool.true_eq_false, decide_eq_true_eq, Bool.not_true, Bool.not_false, Bool.not_eq_true', decide_eq_false_iff_not, exists_eq_left', exists_eq_left, D.bl.injEq, true_and, and_true, not_true_eq_false, not_false_eq_true])
section
variable {P : Program} {w : World} {K : PySem.W.Frag} {mg : Str → Option Value} {base : Heap}
local macro_rules | `(tactic| walk_at "tg") => `(tactic| simp (config := { failIfUnchanged := false }) only [te_name_take, te_name_give, te_name_pair, te_name_first, te_name_second, te_name_to, te_name_both, te_name_one, te_name_mark, te_name_name, te_name_thing, te_name_at, te_thing_take, te_thing_give, te_thing_pair, te_thing_first, te_thing_second, te_thing_to, te_thing_both, te_thing_one, te_thing_mark, te_thing_name, te_thing_thing, te_thing_at, te_take_take, te_take_give, te_take_pair, te_take_first, te_take_second, te_take_to, te_take_both, te_take_one, te_take_mark, te_take_name, te_take_thing, te_take_at, te_give_take, te_give_give, te_give_pair, te_give_first, te_give_second, te_give_to, te_give_both, te_give_one, te_give_mark, te_give_name, te_give_thing, te_give_at, te_pair_take, te_pair_give, te_pair_pair, te_pair_first, te_pair_second, te_pair_to, te_pair_both, te_pair_one, te_pair_mark, te_pair_name, te_pair_thing, te_pair_at, te_first_take, te_first_give, te_first_pair, te_first_first, te_first_second, te_first_to, te_first_both, te_first_one, te_first_mark, te_first_name, te_first_thing, te_first_at, te_second_take, te_second_give, te_second_pair, te_second_first, te_second_second, te_second_to, te_second_both, te_second_one, te_second_mark, te_second_name, te_second_thing, te_second_at, te_mark_take, te_mark_give, te_mark_pair, te_mark_first, te_mark_second, te_mark_to, te_mark_both, te_mark_one, te_mark_mark, te_mark_name, te_mark_thing, te_mark_at, te_one_take, te_one_give, te_one_pair, te_one_first, te_one_second, te_one_to, te_one_both, te_one_one, te_one_mark, te_one_name, te_one_thing, te_one_at, te_to_take, te_to_give, te_to_pair, te_to_first, te_to_second, te_to_to, te_to_both, te_to_one, te_to_mark, te_to_name, te_to_thing, te_to_at, te_both_take, te_both_give, te_both_pair, te_both_first, te_both_second, te_both_to, te_both_both, te_both_one, te_both_mark, te_both_name, te_both_thing, te_both_at, te_at_take, te_at_give, te_at_pair, te_at_first, te_at_second, te_at_to, te_at_both, te_at_one, te_at_mark, te_at_name, te_at_thing, te_at_at, ti4_name, ti4_thing, ti4_take, ti4_give, ti4_pair, ti4_first, ti4_second, ti2_name, ti2_thing, ti2_take, ti2_give, ti2_pair, ti2_first, ti2_second, szT_0, szT_1, szT_2, szT_3, szT_4, szT_5, szT_6, szT_7, szT_8, szT_9, szT_10, szT_11, szT_12, Bool.not_true, Bool.not_false, true_and])
theorem ok_pool {a : Addr} {fd : FuncData} {k : Nat} (N : Fn K mg "_law_pool" s__law_pool P__law_pool a fd) (m_len : mg "len" = none) : FnOk P w K mg base CX0 (k + 1) a fd P__law_pool (liftSp K spPool) := by
  refine fn_d (g := g__law_pool) N.F sc__law_pool (fun ds O R RE ⟨ns, k, e, _⟩ => by rw [e]; rfl) (der__law_pool m_len) ?_
  rintro ds O R RE ⟨ns, k, rfl, h0, h1, hR⟩
  unfold g__law_pool
  walk_at "kf"
  have c1 : CMul 104729 k := Or.inl ⟨by decide, by decide⟩
  have c2 : CMul (104729 * k) k := Or.inr ⟨by omega, by omega⟩
  have c3 : CPow 10 18 := ⟨by decide, by decide, by decide⟩
  have e18 : (10 : Int) ^ Int.toNat 18 = 1000000000000000000 := by decide
  split
  · obtain ⟨n, e1, _⟩ := atI_some (xs := ns) h0 (by assumption)
    simp only [rIx_c e1]
    walk_at "kf"
    refine ⟨c1, c2, poolNum n h0 h1, c3, ?_⟩
    rw [e18]
    split
    · exact ⟨(poolMod _).1, (poolMod _).2, hR⟩
    · exact ⟨by omega, (poolMod _).1, (poolMod _).2, hR⟩
  · refine ⟨c1, c2, poolNum 0 h0 h1, c3, (poolMod _).1, (poolMod _).2, hR⟩
theorem ok_take {a : Addr} {fd : FuncData} {k : Nat} (N : Fn K mg "_law_take" s__law_take P__law_take a fd) : FnOk P w K mg base CX0 (k + 1) a fd P__law_take (liftSp K spTake) := by
  refine fn_d (g := g__law_take) N.F sc__law_take (fun ds O R RE ⟨ns, k, e, _⟩ => by rw [e]; rfl) der__law_take ?_
  rintro ds O R RE ⟨p, m, rfl, hp, h0, h1, hR⟩
  unfold g__law_take
  walk_at "kf"
  simp only [rIx_p0 hp, rIx_p1 hp]
  intro x hx
  walk_at "kf"
  split
  · simp only [rIx_p0 hp]
    intro y hy
    walk_at "kf"
    refine ⟨h0, ?_⟩
    simp only [rIx_p0 hp]
    intro z hz
    walk_at "kf"
    refine ⟨⟨h0, h1⟩, ?_⟩
    simp only [rSet_p0 hp]
    exact ⟨Int.ediv_nonneg hz (by omega), hR _ (Int.emod_nonneg _ (by omega)) (Int.emod_lt_of_pos _ h0)⟩
  · simp only [rIx_p1 hp]
    intro y hy hy2
    walk_at "kf"
    refine ⟨Or.inr ⟨by decide, by decide⟩, ?_⟩
    simp only [rSet_p1 hp]
    refine ⟨poolMod _, ?_⟩
    walk_at "kf"
    simp only [rIx_p1 hp]
    intro z hz hz2
    intro u hu hu2
    walk_at "kf"
    exact ⟨Or.inl ⟨by omega, by omega⟩, ⟨by decide, by decide⟩, h0, hR _ (Int.emod_nonneg _ (by omega)) (Int.emod_lt_of_pos _ h0)⟩
def tnm : List Str := ["f", "p", "y", "z"]
theorem tnm_ok : ∀ t ∈ tnm, PyData.strOk t = true := by decide +kernel
theorem tnm_fr : ∀ t ∈ tnm, Fr t := by
  have h : ∀ x ∈ tnm, ∀ k ∈ List.range 512, xn k ≠ x := by decide +kernel
  exact fun x hx k hk => h x hx k (List.mem_range.mpr hk)
theorem in_f : Str.ofString "f" ∈ tnm := by decide +kernel
theorem in_p : Str.ofString "p" ∈ tnm := by decide +kernel
theorem in_y : Str.ofString "y" ∈ tnm := by decide +kernel
theorem in_z : Str.ofString "z" ∈ tnm := by decide +kernel
/-- a program of these names alone -/
def tgp : Pg → Prop
  | .nm x => x ∈ tnm
  | .thing => True
  | .take x k b => x ∈ tnm ∧ k.ok = true ∧ k.depth ≤ 12 ∧ tgp b
  | .give f a => tgp f ∧ tgp a
  | .pair f a => tgp f ∧ tgp a
  | .first p => tgp p
  | .second p => tgp p
theorem tg_wf : ∀ (p : Pg) (c : List Str), tgp p → Wf (bare p c) c.length
  | .nm x, c, h => by
    simp only [bare]
    cases q : ri c x with
    | some i => exact ri_lt q
    | none => exact tnm_fr x h
  | .thing, _, _ => trivial
  | .take x a b, c, h => tg_wf b (x :: c) h.2.2.2
  | .give f a, c, h => ⟨tg_wf f c h.1, tg_wf a c h.2⟩
  | .pair f a, c, h => ⟨tg_wf f c h.1, tg_wf a c h.2⟩
  | .first p, c, h => tg_wf p c h
  | .second p, c, h => tg_wf p c h
theorem tg_ok : ∀ (p : Pg) (c : List Str), tgp p → (bare p c).ok
  | .nm x, c, h => by
    simp only [bare]
    cases ri c x with
    | some i => trivial
    | none => exact tnm_ok x h
  | .thing, _, _ => trivial
  | .take x k b, c, h => ⟨h.2.1, h.2.2.1, tg_ok b _ h.2.2.2⟩
  | .give f a, c, h => ⟨tg_ok f c h.1, tg_ok a c h.2⟩
  | .pair f a, c, h => ⟨tg_ok f c h.1, tg_ok a c h.2⟩
  | .first p, c, h => tg_ok p c h
  | .second p, c, h => tg_ok p c h
theorem tg_sok : ∀ p : Pg, tgp p → p.sok = true
  | .nm x, h => tnm_ok x h
  | .thing, _ => rfl
  | .take x k b, h => by simp [Pg.sok, tnm_ok x h.1, h.2.1, tg_sok b h.2.2.2]
  | .give f a, h => by simp [Pg.sok, tg_sok f h.1, tg_sok a h.2]
  | .pair f a, h => by simp [Pg.sok, tg_sok f h.1, tg_sok a h.2]
  | .first p, h => tg_sok p h
  | .second p, h => tg_sok p h
/-- at most h high, s great -/
def Tw (h s : Nat) (p : Pg) : Prop := tgp p ∧ p.hgt ≤ h ∧ p.psz ≤ s
theorem Tw.le {h s h' s' : Nat} {p : Pg} (t : Tw h s p) (h1 : h ≤ h') (h2 : s ≤ s') : Tw h' s' p := ⟨t.1, Nat.le_trans t.2.1 h1, Nat.le_trans t.2.2 h2⟩
theorem tw_nm {x : Str} (h : x ∈ tnm) : Tw 0 1 (.nm x) := ⟨h, Nat.le_refl _, Nat.le_refl _⟩
theorem tw_give {h s h' s' : Nat} {p q : Pg} (t : Tw h s p) (u : Tw h' s' q) : Tw (max h h' + 1) (s + s' + 1) (.give p q) := ⟨⟨t.1, u.1⟩, by have := t.2.1; have := u.2.1; simp only [Pg.hgt]; omega, by have := t.2.2; have := u.2.2; simp only [Pg.psz]; omega⟩
theorem tw_pair {h s h' s' : Nat} {p q : Pg} (t : Tw h s p) (u : Tw h' s' q) : Tw (max h h' + 1) (s + s' + 1) (.pair p q) := ⟨⟨t.1, u.1⟩, by have := t.2.1; have := u.2.1; simp only [Pg.hgt]; omega, by have := t.2.2; have := u.2.2; simp only [Pg.psz]; omega⟩
theorem tw_first {h s : Nat} {p : Pg} (t : Tw h s p) : Tw (h + 1) (s + 1) (.first p) := ⟨t.1, by have := t.2.1; simp only [Pg.hgt]; omega, by have := t.2.2; simp only [Pg.psz]; omega⟩
theorem tw_second {h s : Nat} {p : Pg} (t : Tw h s p) : Tw (h + 1) (s + 1) (.second p) := ⟨t.1, by have := t.2.1; simp only [Pg.hgt]; omega, by have := t.2.2; simp only [Pg.psz]; omega⟩
theorem tw_take {h s : Nat} {p : Pg} {x : Str} {k : Kd} (hx : x ∈ tnm) (h1 : k.ok = true) (h2 : k.depth ≤ 12) (t : Tw h s p) : Tw (h + 1) (s + 1) (.take x k p) := ⟨⟨hx, h1, h2, t.1⟩, by have := t.2.1; simp only [Pg.hgt]; omega, by have := t.2.2; simp only [Pg.psz]; omega⟩
theorem tw_thing : Tw 0 1 .thing := ⟨trivial, Nat.le_refl _, Nat.le_refl _⟩
theorem tw_fits {p : Pg} (h : Tw 100 4194304 p) : p.hgt ≤ 100 ∧ p.sok = true ∧ Good (bare p []) :=
  ⟨h.2.1, tg_sok p h.1, tg_wf p [] h.1, tg_ok p [] h.1, by rw [bare_hgt]; exact h.2.1, by rw [bare_psz]; exact h.2.2⟩
theorem ka_ok : (Kd.mk "a").ok = true := by decide +kernel
def spLevel : DSp := fun ds O R _ => ∃ n : Int, ds = [.int n] ∧ 0 ≤ n ∧ n ≤ 12 ∧ ∀ k : Kd, k.ok = true → k.depth ≤ 12 → R (dK k) O
theorem ok_level (T : Tx K mg) : FO__law_level P w base T 1 spLevel := by
  refine fnd__law_level T (by walk_at "len") ?_
  rintro ds O R RE ⟨n, rfl, hn, hn2, hR⟩
  unfold g__law_level
  refine gSeq_step ?_
  walk_at "kf1"
  walk_at "tg"
  refine gSeq_step ?_
  walk_at "kf1"
  walk_at "tg"
  refine ⟨by omega, by omega, ?_⟩
  rw [rangeD_map]
  refine forA_ix _ (fun pre _ ρ O' => ∃ k x, ρ = [some (.int n), some (dK k), x] ∧ O' = O ∧ k.ok = true ∧ k.depth ≤ pre.length) _ [] _ _ ⟨.mk "a", _, rfl, rfl, ka_ok, Nat.le_refl _⟩ ?_ ?_
  · rintro ρ O' ⟨k, x, rfl, rfl, h1, h2⟩
    rw [List.nil_append, List.length_range] at h2
    walk_at "kf1"
    walk_at "tg"
    exact hR k h1 (by omega)
  · rintro pre x rest e ρ O' ⟨k, x', rfl, rfl, h1, h2⟩ N hN
    walk_at "kf1"
    walk_at "tg"
    exact hN _ _ ⟨.to k k, _, rfl, rfl, by simp [Kd.ok, h1], by rw [List.length_append, List.length_singleton]; simp only [Kd.depth]; omega⟩
def spOften : DSp := fun ds O R _ => ∃ n m : Int, ds = [.int n, .int m] ∧ 1 ≤ n ∧ n ≤ 12 ∧ 0 ≤ m ∧ m ≤ 11 ∧ ∀ p : Pg, Tw 13 25 p → R (dP p) O
theorem ok_often (T : Tx K mg) : FO__law_often P w base T 2 spOften := by
  refine fnd__law_often T (ok_level T) (by walk_at "len") ?_
  rintro ds O R RE ⟨n, m, rfl, hn, hn2, hm, hm2, hR⟩
  unfold g__law_often
  refine gSeq_step ?_
  walk_at "kf1"
  walk_at "tg"
  refine gSeq_step ?_
  walk_at "kf1"
  walk_at "tg"
  refine ⟨by omega, by omega, ?_⟩
  rw [rangeD_map]
  refine forA_ix _ (fun pre _ ρ O' => ∃ p x, ρ = [some (.int n), some (.int m), some (dP p), x] ∧ O' = O ∧ Tw pre.length (1 + 2 * pre.length) p) _ [] _ _ ⟨.nm "y", _, rfl, rfl, tw_nm in_y⟩ ?_ ?_
  · rintro ρ O' ⟨p, x, rfl, rfl, h⟩
    rw [List.nil_append, List.length_range] at h
    walk_at "kf1"
    walk_at "tg"
    refine ⟨n, rfl, by omega, by omega, fun k h1 h2 => ?_⟩
    try dsimp only
    walk_at "kf1"
    walk_at "tg"
    refine ⟨n - 1, rfl, by omega, by omega, fun k' h3 h4 => ?_⟩
    exact hR (.take "z" k (.take "y" k' p)) ((tw_take in_z h1 h2 (tw_take in_y h3 h4 h)).le (by omega) (by omega))
  · rintro pre x rest e ρ O' ⟨p, x', rfl, rfl, h⟩ N hN
    walk_at "kf1"
    walk_at "tg"
    exact hN _ _ ⟨.give (.nm "z") p, _, rfl, rfl, (tw_give (tw_nm in_z) h).le (by rw [List.length_append, List.length_singleton]; omega) (by rw [List.length_append, List.length_singleton]; omega)⟩
def spRow : DSp := fun ds O R _ => ∃ n : Int, ds = [.int n] ∧ 0 ≤ n ∧ n ≤ 60 ∧ ∀ p : Pg, Tw n.toNat 121 p → R (dP p) O
theorem ok_row (T : Tx K mg) : FO__law_row P w base T 1 spRow := by
  refine fnd__law_row T (by walk_at "len") ?_
  rintro ds O R RE ⟨n, rfl, hn, hn2, hR⟩
  unfold g__law_row
  refine gSeq_step ?_
  walk_at "kf1"
  walk_at "tg"
  refine gSeq_step ?_
  walk_at "kf1"
  walk_at "tg"
  refine ⟨by omega, by omega, ?_⟩
  rw [rangeD_map]
  refine forA_ix _ (fun pre _ ρ O' => ∃ p x, ρ = [some (.int n), some (dP p), x] ∧ O' = O ∧ Tw pre.length (1 + 2 * pre.length) p) _ [] _ _ ⟨.nm "p", _, rfl, rfl, tw_nm in_p⟩ ?_ ?_
  · rintro ρ O' ⟨p, x, rfl, rfl, h⟩
    rw [List.nil_append, List.length_range] at h
    walk_at "kf1"
    walk_at "tg"
    exact hR p (h.le (by omega) (by omega))
  · rintro pre x rest e ρ O' ⟨p, x', rfl, rfl, h⟩ N hN
    walk_at "kf1"
    walk_at "tg"
    exact hN _ _ ⟨.give (.nm "f") p, _, rfl, rfl, (tw_give (tw_nm in_f) h).le (by rw [List.length_append, List.length_singleton]; omega) (by rw [List.length_append, List.length_singleton]; omega)⟩
def spDoubled : DSp := fun ds O R _ => ∃ (p : Pg) (n : Int) (h s : Nat), ds = [dP p, .int n] ∧ 0 ≤ n ∧ n ≤ 4 ∧ Tw h s p ∧ 2 ≤ h ∧ ∀ q : Pg, Tw (h + 4) (s + 20) q → R (dP q) O
theorem ok_doubled (T : Tx K mg) : FO__law_doubled P w base T 1 spDoubled := by
  refine fnd__law_doubled T (by walk_at "len") ?_
  rintro ds O R RE ⟨p, n, h, s, rfl, hn, hn2, hp, hh, hR⟩
  unfold g__law_doubled
  refine gSeq_step ?_
  walk_at "kf1"
  walk_at "tg"
  refine gSeq_step ?_
  walk_at "kf1"
  walk_at "tg"
  refine ⟨by omega, by omega, ?_⟩
  rw [rangeD_map]
  refine forA_ix _ (fun pre _ ρ O' => ∃ q k x, ρ = [some (dP q), some (.int n), some (dK k), x] ∧ O' = O ∧ pre.length ≤ 4 ∧ Tw (h + pre.length) (s + 5 * pre.length) q ∧ k.ok = true ∧ k.depth ≤ pre.length) _ [] _ _ ⟨p, .mk "a", _, rfl, rfl, by simp, hp, ka_ok, Nat.le_refl _⟩ ?_ ?_
  · rintro ρ O' ⟨q, k, x, rfl, rfl, hl, h1, h2, h3⟩
    walk_at "kf1"
    walk_at "tg"
    exact hR q (h1.le (by omega) (by omega))
  · rintro pre x rest e ρ O' ⟨q, k, x', rfl, rfl, hl, h1, h2, h3⟩ N hN
    have hpl : pre.length + 1 ≤ 4 := by
      have := congrArg List.length e
      rw [List.nil_append, List.length_range, List.length_append, List.length_cons] at this
      omega
    walk_at "kf1"
    refine gSeq_step ?_
    walk_at "kf1"
    walk_at "tg"
    refine hN _ _ ⟨.give (.take "z" k (.pair (.nm "z") (.nm "z"))) q, .both k k, _, rfl, rfl, by rw [List.length_append, List.length_singleton]; omega, (tw_give (tw_take in_z h2 (by omega) (tw_pair (tw_nm in_z) (tw_nm in_z))) h1).le (by rw [List.length_append, List.length_singleton]; omega) (by rw [List.length_append, List.length_singleton]; omega), by simp [Kd.ok, h2], by rw [List.length_append, List.length_singleton]; simp only [Kd.depth]; omega⟩
/-- the makers of programs -/
def spWay : DSp := fun ds O R _ => ∃ pa : Addr, ds = [.ref pa] ∧ O pa = some .pool ∧ ∀ p : Pg, Tw 97 100000 p → R (dP p) O
end
end Kf
namespace Kf
open PySem PySem.Spec L2
open PyProof.Rows hiding St
local macro_rules | `(tactic| walk_at "kf") => `(tactic| simp (config := { failIfUnchanged := false }) only [startD, ap_fiEnumT, asT1_t, ap_fKGet, asStr_s, ap_fKIn, ap_fKIx, ap_gAsgL, rUnl_l, ap_fiRng3, asR3_i, rSplitO_s, ap_fOrL, rOrL_l, ap_fLcK, ap_gForK, ap_fMaxD, rMaxD_l, rMaxL_l, ap_fCallXD, ap_gForE, asLE_l, ap_fFrz, ap_fDicO, ap_fDGet, ap_fDGet1, ap_fDGet2, ap_gDPut, ap_fIsiT, ap_gForR, rRep_l, isT_i, isT_s, isT_b, isT_n, isT_t, isT_l, ap_gSeq, ap_gIf, ap_gRet, ap_gNext, ap_gSet, ap_gAsg, ap_gDrop, ap_gRetF, ap_gRetN, ap_gFor, ap_gSetIx, ap_gBreak, ap_fRev, ap_fiRevR, asIR_i, rRev_l, ap_fCallX, ap_gRaise, ap_gTry, ap_gTryAs, ap_gNever, ap_fEdic, ap_fTest, ap_fOp, ap_fVar, envGet_s, patGet_s, ap_fC, ap_fCB, ap_fCons, ap_fNil, ap_fCall, ap_fAnd, ap_fOr, ap_fNot, ap_fAndV, ap_fOrV, ap_fNotV, ap_fIf, ap_fTup, ap_fLst, ap_fLstO, ap_fChain, ap_fUn, ap_fBM, ap_fBM0, ap_fPool, rPool_i, ap_fSl, ap_fPart, ap_fNoPart, asI_i, rSl_l, ap_fiRng1, ap_fiRng2, ap_fiList, ap_fiTup, ap_fiStr, ap_fiEnum, ap_fiZip, ap_fiRev, asL_l, asT_t, asSg_s, asR1_i, asR2_i, asL1_l, asL2_l, ap_fLc, ap_fLcO, ap_fYes, wipeD, lcD, isi_i_int, isi_i_bool, isi_i_str, isi_i_tuple, isi_i_list, isi_i_dict, isi_b_int, isi_b_bool, isi_b_str, isi_b_tuple, isi_b_list, isi_b_dict, isi_s_int, isi_s_bool, isi_s_str, isi_s_tuple, isi_s_list, isi_s_dict, isi_t_int, isi_t_bool, isi_t_str, isi_t_tuple, isi_t_list, isi_t_dict, isi_l_int, isi_l_bool, isi_l_str, isi_l_tuple, isi_l_list, isi_l_dict, isi_n_int, isi_n_bool, isi_n_str, isi_n_tuple, isi_n_list, isi_n_dict, isi_d_int, isi_d_bool, isi_d_str, isi_d_tuple, isi_d_list, isi_d_dict,
  deref_tup, deref_lst, deref_int, deref_str, deref_bl, deref_non, deref_scr, rLt_i, rLt_s, rLe_i, rLe_s, rInts_i, rInts0_i, rAdd_i, rAdd_s, rAdd_l, rAdd_t, rCatO_l, rNeg_i, rLen_t, rLen_l, rLen_c, rLen_s, rMax_i, rMin_i, rInt_i, rInt_b, rDivmod_i, ap_gAug, rStr_i, rList_l, rList_t, rListO_l, rListO_t, rTup_l, rTup_t,
  rIx_t0, rIx_t1, rIx_t2, rIx_t3, rIx_l0, rIx_l1, rIx_l2, rIsN_x, isNon_t, isNon_n, isNon_i, isNon_s, isNon_l, rEq_i, rEq_b, rEq_i2, rEq_b2, rJoin_m, rSplit_s, tyOk_l, tyOk_s, patD_nm, patD_tp, patDs_nil, patDs_cons, Option.bind_some, notX, notX',
  List.map_cons, List.map_nil, List.length_cons, List.length_nil, List.cons_append, List.nil_append, List.append_nil, List.replicate, List.getElem?_cons_zero, List.getElem?_cons_succ, List.set_cons_zero, List.set_cons_succ, updO_same, updO_updO,
  Nat.reduceSub, Nat.reduceAdd, Nat.reduceLeDiff, Nat.zero_add, Int.cast_ofNat_Int, Int.natCast_zero, Int.natCast_one, Int.reduceLT, Int.reduceLE, Int.reduceEq, Int.reduceAdd, Int.reduceSub, Int.reduceNeg, decide_true, decide_false, if_true, if_false, Bool.false_eq_true, eq_self, reduceIte, Bool.true_eq_false, decide_eq_true_eq, Bool.not_true, Bool.not_false, Bool.not_eq_true', decide_eq_false_iff_not, exists_eq_left', exists_eq_left, D.bl.injEq, true_and, and_true, not_true_eq_false, not_false_eq_true])
local macro_rules | `(tactic| walk_at "len") => `(tactic| (intro ds O R RE h; first | (obtain ⟨e, _⟩ := h; subst e; rfl) | (obtain ⟨_, e, _⟩ := h; subst e; rfl) | (obtain ⟨_, _, e, _⟩ := h; subst e; rfl) | (obtain ⟨_, _, _, e, _⟩ := h; subst e; rfl) | (obtain ⟨_, _, _, _, e, _⟩ := h; subst e; rfl) | (obtain ⟨_, _, _, _, _, e, _⟩ := h; subst e; rfl) | (obtain ⟨_, _, _, _, _, _, e, _⟩ := h; subst e; rfl) | (obtain ⟨_, _, _, _, _, _, _, e, _⟩ := h; subst e; rfl) | (obtain ⟨_, _, _, _, _, _, _, _, e, _⟩ := h; subst e; rfl) | (obtain ⟨_, _, _, _, _, _, _, _, _, e, _⟩ := h; subst e; rfl)))
local macro_rules | `(tactic| walk_at "kf1") => `(tactic| simp (config := { failIfUnchanged := false }) only [startD, ap_fiEnumT, asT1_t, ap_fKGet, asStr_s, ap_fKIn, ap_fKIx, ap_gAsgL, rUnl_l, ap_fiRng3, asR3_i, rSplitO_s, ap_fOrL, rOrL_l, ap_fLcK, ap_gForK, ap_fMaxD, rMaxD_l, rMaxL_l, ap_fCallXD, ap_gForE, asLE_l, ap_fFrz, ap_fDicO, ap_fDGet, ap_fDGet1, ap_fDGet2, ap_gDPut, ap_fIsiT, ap_gForR, rRep_l, isT_i, isT_s, isT_b, isT_n, isT_t, isT_l, ap_gIf, ap_gRet, ap_gNext, ap_gSet, ap_gAsg, ap_gDrop, ap_gRetF, ap_gRetN, ap_gFor, ap_gSetIx, ap_gBreak, ap_fRev, ap_fiRevR, asIR_i, rRev_l, ap_fCallX, ap_gRaise, ap_gTry, ap_gTryAs, ap_gNever, ap_fEdic, ap_fTest, ap_fOp, ap_fVar, envGet_s, patGet_s, ap_fC, ap_fCB, ap_fCons, ap_fNil, ap_fCall, ap_fAnd, ap_fOr, ap_fNot, ap_fAndV, ap_fOrV, ap_fNotV, ap_fIf, ap_fTup, ap_fLst, ap_fLstO, ap_fChain, ap_fUn, ap_fBM, ap_fBM0, ap_fPool, rPool_i, ap_fSl, ap_fPart, ap_fNoPart, asI_i, rSl_l, ap_fiRng1, ap_fiRng2, ap_fiList, ap_fiTup, ap_fiStr, ap_fiEnum, ap_fiZip, ap_fiRev, asL_l, asT_t, asSg_s, asR1_i, asR2_i, asL1_l, asL2_l, ap_fLc, ap_fLcO, ap_fYes, wipeD, lcD, isi_i_int, isi_i_bool, isi_i_str, isi_i_tuple, isi_i_list, isi_i_dict, isi_b_int, isi_b_bool, isi_b_str, isi_b_tuple, isi_b_list, isi_b_dict, isi_s_int, isi_s_bool, isi_s_str, isi_s_tuple, isi_s_list, isi_s_dict, isi_t_int, isi_t_bool, isi_t_str, isi_t_tuple, isi_t_list, isi_t_dict, isi_l_int, isi_l_bool, isi_l_str, isi_l_tuple, isi_l_list, isi_l_dict, isi_n_int, isi_n_bool, isi_n_str, isi_n_tuple, isi_n_list, isi_n_dict, isi_d_int, isi_d_bool, isi_d_str, isi_d_tuple, isi_d_list, isi_d_dict,
  deref_tup, deref_lst, deref_int, deref_str, deref_bl, deref_non, deref_scr, rLt_i, rLt_s, rLe_i, rLe_s, rInts_i, rInts0_i, rAdd_i, rAdd_s, rAdd_l, rAdd_t, rCatO_l, rNeg_i, rLen_t, rLen_l, rLen_c, rLen_s, rMax_i, rMin_i, rInt_i, rInt_b, rDivmod_i, ap_gAug, rStr_i, rList_l, rList_t, rListO_l, rListO_t, rTup_l, rTup_t,
  rIx_t0, rIx_t1, rIx_t2, rIx_t3, rIx_l0, rIx_l1, rIx_l2, rIsN_x, isNon_t, isNon_n, isNon_i, isNon_s, isNon_l, rEq_i, rEq_b, rEq_i2, rEq_b2, rJoin_m, rSplit_s, tyOk_l, tyOk_s, patD_nm, patD_tp, patDs_nil, patDs_cons, Option.bind_some, notX, notX',
  List.map_cons, List.map_nil, List.length_cons, List.length_nil, List.cons_append, List.nil_append, List.append_nil, List.replicate, List.getElem?_cons_zero, List.getElem?_cons_succ, List.set_cons_zero, List.set_cons_succ, updO_same, updO_updO,
  Nat.reduceSub, Nat.reduceAdd, Nat.reduceLeDiff, Nat.zero_add, Int.cast_ofNat_Int, Int.natCast_zero, Int.natCast_one, Int.reduceLT, Int.reduceLE, Int.reduceEq, Int.reduceAdd, Int.reduceSub, Int.reduceNeg, decide_true, decide_false, if_true, if_false, Bool.false_eq_true, eq_self, reduceIte, Bool.true_eq_false, decide_eq_true_eq, Bool.not_true, Bool.not_false, Bool.not_eq_true', decide_eq_false_iff_not, exists_eq_left', exists_eq_left, D.bl.injEq, true_and, and_true, not_true_eq_false, not_false_eq_true])
section
variable {P : Program} {w : World} {K : PySem.W.Frag} {mg : Str → Option Value} {base : Heap}
local macro_rules | `(tactic| walk_at "tg") => `(tactic| simp (config := { failIfUnchanged := false }) only [te_name_take, te_name_give, te_name_pair, te_name_first, te_name_second, te_name_to, te_name_both, te_name_one, te_name_mark, te_name_name, te_name_thing, te_name_at, te_thing_take, te_thing_give, te_thing_pair, te_thing_first, te_thing_second, te_thing_to, te_thing_both, te_thing_one, te_thing_mark, te_thing_name, te_thing_thing, te_thing_at, te_take_take, te_take_give, te_take_pair, te_take_first, te_take_second, te_take_to, te_take_both, te_take_one, te_take_mark, te_take_name, te_take_thing, te_take_at, te_give_take, te_give_give, te_give_pair, te_give_first, te_give_second, te_give_to, te_give_both, te_give_one, te_give_mark, te_give_name, te_give_thing, te_give_at, te_pair_take, te_pair_give, te_pair_pair, te_pair_first, te_pair_second, te_pair_to, te_pair_both, te_pair_one, te_pair_mark, te_pair_name, te_pair_thing, te_pair_at, te_first_take, te_first_give, te_first_pair, te_first_first, te_first_second, te_first_to, te_first_both, te_first_one, te_first_mark, te_first_name, te_first_thing, te_first_at, te_second_take, te_second_give, te_second_pair, te_second_first, te_second_second, te_second_to, te_second_both, te_second_one, te_second_mark, te_second_name, te_second_thing, te_second_at, te_mark_take, te_mark_give, te_mark_pair, te_mark_first, te_mark_second, te_mark_to, te_mark_both, te_mark_one, te_mark_mark, te_mark_name, te_mark_thing, te_mark_at, te_one_take, te_one_give, te_one_pair, te_one_first, te_one_second, te_one_to, te_one_both, te_one_one, te_one_mark, te_one_name, te_one_thing, te_one_at, te_to_take, te_to_give, te_to_pair, te_to_first, te_to_second, te_to_to, te_to_both, te_to_one, te_to_mark, te_to_name, te_to_thing, te_to_at, te_both_take, te_both_give, te_both_pair, te_both_first, te_both_second, te_both_to, te_both_both, te_both_one, te_both_mark, te_both_name, te_both_thing, te_both_at, te_at_take, te_at_give, te_at_pair, te_at_first, te_at_second, te_at_to, te_at_both, te_at_one, te_at_mark, te_at_name, te_at_thing, te_at_at, ti4_name, ti4_thing, ti4_take, ti4_give, ti4_pair, ti4_first, ti4_second, ti2_name, ti2_thing, ti2_take, ti2_give, ti2_pair, ti2_first, ti2_second, szT_0, szT_1, szT_2, szT_3, szT_4, szT_5, szT_6, szT_7, szT_8, szT_9, szT_10, szT_11, szT_12, Bool.not_true, Bool.not_false, true_and])
theorem tw_idx {O : Ow} {b : Prop} [Decidable b] {Q : VD} (h : ∀ v : Int, 0 < v → v ≤ 11 → Q (.int v) O) : rIxD (.lst [.int 3, .int 11]) (.int (if b then 1 else 0)) O Q := by
  by_cases e : b
  · rw [if_pos e, rIx_l (d := .int 11) rfl]; exact h 11 (by decide) (by decide)
  · rw [if_neg e, rIx_l (d := .int 3) rfl]; exact h 3 (by decide) (by decide)
theorem ok_tower (T : Tx K mg) : FO__law_tower P w base T 3 spWay := by
  refine fnd__law_tower T (ok_take T.n__law_take) (ok_often T) (by walk_at "len") ?_
  rintro ds O R RE ⟨pa, rfl, hp, hR⟩
  unfold g__law_tower
  refine gSeq_step ?_
  walk_at "kf1"
  refine take_of hp (by decide) (by decide) fun r hr0 hr1 => ?_
  walk_at "kf1"
  refine gSeq_step ?_
  walk_at "kf1"
  walk_at "tg"
  refine tw_idx fun v hv0 hv1 => ?_
  refine take_of hp hv0 (by omega) fun r2 h20 h21 => ?_
  walk_at "kf1"
  refine ⟨_, _, rfl, by omega, by omega, by omega, by omega, fun p hpw => ?_⟩
  try dsimp only
  refine gSeq_step ?_
  walk_at "kf1"
  refine ⟨_, RgC.neg (by omega) (by omega) (by decide) (by decide), ?_⟩
  unfold rangeC
  refine forA_ix _ (fun pre _ ρ O' => ∃ p x y, ρ = [some (.ref pa), some (.int (1 + r)), some (dP p), x, y] ∧ O' = O ∧ Tw (13 + pre.length) (25 + 26 * pre.length) p) _ [] _ _ ⟨p, _, _, rfl, rfl, hpw⟩ ?_ ?_
  · rintro ρ O' ⟨p, x, y, rfl, rfl, h⟩
    rw [List.nil_append, List.length_range] at h
    try dsimp only
    refine gSeq_step ?_
    walk_at "kf1"
    walk_at "tg"
    refine gSeq_step ?_
    walk_at "kf1"
    refine take_of hp (by decide) (by decide) fun r3 h30 h31 => ?_
    walk_at "kf1"
    refine ⟨by omega, by omega, ?_⟩
    rw [rangeD_map]
    refine forA_ix _ (fun pre _ ρ O2 => ∃ p y, ρ = [some (.ref pa), some (.int (1 + r)), some (dP p), x, y] ∧ O2 = O2 ∧ O2 = O' ∧ Tw (18 + pre.length) (90 + 2 * pre.length) p) _ [] _ _ ⟨.give (.give p (.nm "f")) (.nm "p"), _, rfl, rfl, rfl, (tw_give (tw_give h (tw_nm in_f)) (tw_nm in_p)).le (by simp only [List.length_nil]; omega) (by simp only [List.length_nil]; omega)⟩ ?_ ?_
    · rintro ρ O' ⟨p, y, rfl, _, rfl, h⟩
      rw [List.nil_append, List.length_range] at h
      walk_at "kf1"
      exact hR p (h.le (by omega) (by omega))
    · rintro pre z rest e ρ O' ⟨p, y, rfl, _, rfl, h⟩ N hN
      walk_at "kf1"
      walk_at "tg"
      exact hN _ _ ⟨.give (.nm "f") p, _, rfl, rfl, rfl, (tw_give (tw_nm in_f) h).le (by rw [List.length_append, List.length_singleton]; omega) (by rw [List.length_append, List.length_singleton]; omega)⟩
  · rintro pre z rest e ρ O' ⟨p, x, y, rfl, rfl, h⟩ N hN
    have hz : z < (1 + r - 1 - 0).toNat := by
      have : z ∈ List.range (1 + r - 1 - 0).toNat := by rw [← List.nil_append (List.range _), e]; simp
      exact List.mem_range.mp this
    walk_at "kf1"
    walk_at "tg"
    refine tw_idx fun v hv0 hv1 => ?_
    refine take_of hp hv0 (by omega) fun r2 h20 h21 => ?_
    walk_at "kf1"
    refine ⟨_, _, rfl, by omega, by omega, by omega, by omega, fun q hqw => ?_⟩
    try dsimp only
    walk_at "kf1"
    walk_at "tg"
    exact hN _ _ ⟨.give p q, _, _, rfl, rfl, (tw_give h hqw).le (by rw [List.length_append, List.length_singleton]; omega) (by rw [List.length_append, List.length_singleton]; omega)⟩
theorem ok_halves (T : Tx K mg) : FO__law_halves P w base T 3 spWay := by
  refine fnd__law_halves T (ok_take T.n__law_take) (fnUp (ok_doubled T) (by omega)) (by walk_at "len") ?_
  rintro ds O R RE ⟨pa, rfl, hp, hR⟩
  unfold g__law_halves
  refine gSeq_step ?_
  walk_at "kf1"
  walk_at "tg"
  refine gSeq_step ?_
  walk_at "kf1"
  refine take_of hp (by decide) (by decide) fun r1 h10 h11 => ?_
  walk_at "kf1"
  refine take_of hp (by decide) (by decide) fun r2 h20 h21 => ?_
  walk_at "kf1"
  walk_at "tg"
  refine take_of hp (by decide) (by decide) fun r3 h30 h31 => ?_
  refine rIx_any h30 (by simpa using h31) fun v hv => ?_
  obtain ⟨n, rfl, hn0, hn1⟩ : ∃ n : Int, v = .int n ∧ 0 ≤ n ∧ n ≤ 30 := by
    simp only [List.mem_cons, List.not_mem_nil, or_false] at hv
    rcases hv with rfl | rfl
    · exact ⟨_, rfl, by omega, by omega⟩
    · exact ⟨_, rfl, by omega, by omega⟩
  walk_at "kf1"
  refine ⟨by omega, by omega, ?_⟩
  rw [rangeD_map]
  refine forA_ix _ (fun pre _ ρ O' => ∃ p y, ρ = [some (.ref pa), some (dP p), y] ∧ O' = O ∧ Tw (2 + 2 * pre.length) (1 + 3 * pre.length) p) _ [] _ _ ⟨.nm "p", _, rfl, rfl, (tw_nm in_p).le (by omega) (by omega)⟩ ?_ ?_
  · rintro ρ O' ⟨p, y, rfl, rfl, h⟩
    rw [List.nil_append, List.length_range] at h
    try dsimp only
    refine gSeq_step ?_
    walk_at "kf1"
    walk_at "tg"
    refine take_of hp (by decide) (by decide) fun r4 h40 h41 => ?_
    refine rIx_any h40 (by simpa using h41) fun v hv => ?_
    obtain ⟨m, rfl, hm0, hm1⟩ : ∃ n : Int, v = .int n ∧ 0 ≤ n ∧ n ≤ 3 := by
      simp only [List.mem_cons, List.not_mem_nil, or_false] at hv
      rcases hv with rfl | rfl | rfl | rfl
      · exact ⟨_, rfl, by omega, by omega⟩
      · exact ⟨_, rfl, by omega, by omega⟩
      · exact ⟨_, rfl, by omega, by omega⟩
      · exact ⟨_, rfl, by omega, by omega⟩
    refine ⟨p, m, _, _, rfl, by omega, by omega, h, by omega, fun q hq => ?_⟩
    try dsimp only
    refine gSeq_step ?_
    walk_at "kf1"
    refine take_of hp (by decide) (by decide) fun r5 h50 h51 => ?_
    walk_at "kf1"
    refine ⟨by omega, by omega, ?_⟩
    rw [rangeD_map]
    refine forA_ix _ (fun pre _ ρ O2 => ∃ p y, ρ = [some (.ref pa), some (dP p), y] ∧ O2 = O2 ∧ O2 = O' ∧ Tw (66 + pre.length) (111 + 5 * pre.length) p) _ [] _ _ ⟨q, _, rfl, rfl, rfl, hq.le (by omega) (by omega)⟩ ?_ ?_
    · rintro ρ O' ⟨p, y, rfl, _, rfl, h⟩
      rw [List.nil_append, List.length_range] at h
      walk_at "kf1"
      exact hR p (h.le (by omega) (by omega))
    · rintro pre z rest e ρ O' ⟨p, y, rfl, _, rfl, h⟩ N hN
      walk_at "kf1"
      walk_at "tg"
      exact hN _ _ ⟨.pair (.second (.pair .thing (.nm "p"))) p, _, rfl, rfl, rfl, (tw_pair (tw_second (tw_pair tw_thing (tw_nm in_p))) h).le (by rw [List.length_append, List.length_singleton]; omega) (by rw [List.length_append, List.length_singleton]; omega)⟩
  · rintro pre z rest e ρ O' ⟨p, y, rfl, rfl, h⟩ N hN
    walk_at "kf1"
    walk_at "tg"
    exact hN _ _ ⟨.first (.pair p .thing), _, rfl, rfl, (tw_first (tw_pair h tw_thing)).le (by rw [List.length_append, List.length_singleton]; omega) (by rw [List.length_append, List.length_singleton]; omega)⟩
theorem ok_wide (T : Tx K mg) : FO__law_wide P w base T 3 spWay := by
  refine fnd__law_wide T (fnUp (ok_doubled T) (by omega)) (fnUp (ok_row T) (by omega)) (ok_take T.n__law_take) (by walk_at "len") ?_
  rintro ds O R RE ⟨pa, rfl, hp, hR⟩
  unfold g__law_wide
  refine gSeq_step ?_
  walk_at "kf1"
  refine take_of hp (by decide) (by decide) fun r1 h10 h11 => ?_
  walk_at "kf1"
  refine ⟨_, rfl, by omega, by omega, fun p hpw => ?_⟩
  try dsimp only
  walk_at "kf1"
  walk_at "tg"
  refine take_of hp (by decide) (by decide) fun r4 h40 h41 => ?_
  refine rIx_any h40 (by simpa using h41) fun v hv => ?_
  obtain ⟨m, rfl, hm0, hm1⟩ : ∃ n : Int, v = .int n ∧ 0 ≤ n ∧ n ≤ 4 := by
    simp only [List.mem_cons, List.not_mem_nil, or_false] at hv
    rcases hv with rfl | rfl | rfl | rfl
    · exact ⟨_, rfl, by omega, by omega⟩
    · exact ⟨_, rfl, by omega, by omega⟩
    · exact ⟨_, rfl, by omega, by omega⟩
    · exact ⟨_, rfl, by omega, by omega⟩
  refine ⟨p, m, 47, 121, rfl, by omega, by omega, hpw.le (by omega) (by omega), by omega, fun q hq => ?_⟩
  try dsimp only
  refine gSeq_step ?_
  walk_at "kf1"
  refine take_of hp (by decide) (by decide) fun r5 h50 h51 => ?_
  walk_at "kf1"
  refine ⟨by omega, by omega, ?_⟩
  rw [rangeD_map]
  refine forA_ix _ (fun pre _ ρ O' => ∃ p y, ρ = [some (.ref pa), some (dP p), y] ∧ O' = O ∧ Tw (51 + pre.length) (141 + 2 * pre.length) p) _ [] _ _ ⟨q, _, rfl, rfl, hq.le (by omega) (by omega)⟩ ?_ ?_
  · rintro ρ O' ⟨p, y, rfl, rfl, h⟩
    rw [List.nil_append, List.length_range] at h
    try dsimp only
    refine gSeq_step ?_
    walk_at "kf1"
    refine take_of hp (by decide) (by decide) fun r6 h60 h61 => ?_
    walk_at "kf1"
    split
    · walk_at "kf1"
      walk_at "tg"
      exact hR (.take "y" (.mk "a") p) ((tw_take in_y ka_ok (by simp [Kd.depth]) h).le (by omega) (by omega))
    · walk_at "kf1"
      exact hR p (h.le (by omega) (by omega))
  · rintro pre z rest e ρ O' ⟨p, y, rfl, rfl, h⟩ N hN
    walk_at "kf1"
    walk_at "tg"
    exact hN _ _ ⟨.pair .thing p, _, rfl, rfl, (tw_pair tw_thing h).le (by rw [List.length_append, List.length_singleton]; omega) (by rw [List.length_append, List.length_singleton]; omega)⟩
theorem ok_deepened (T : Tx K mg) : FO__law_deepened P w base T 3 spWay := by
  refine fnd__law_deepened T (ok_take T.n__law_take) (fnUp (ok_row T) (by omega)) (by walk_at "len") ?_
  rintro ds O R RE ⟨pa, rfl, hp, hR⟩
  unfold g__law_deepened
  refine gSeq_step ?_
  walk_at "kf1"
  walk_at "tg"
  refine gSeq_step ?_
  walk_at "kf1"
  refine take_of hp (by decide) (by decide) fun r1 h10 h11 => ?_
  walk_at "kf1"
  refine ⟨by omega, by omega, ?_⟩
  rw [rangeD_map]
  refine forA_ix _ (fun pre _ ρ O' => ∃ p y, ρ = [some (.ref pa), some (dP p), y] ∧ O' = O ∧ Tw pre.length (1 + 2 * pre.length) p) _ [] _ _ ⟨.nm "z", _, rfl, rfl, tw_nm in_z⟩ ?_ ?_
  · rintro ρ O' ⟨p, y, rfl, rfl, h⟩
    rw [List.nil_append, List.length_range] at h
    try dsimp only
    walk_at "kf1"
    walk_at "tg"
    refine take_of hp (by decide) (by decide) fun r6 h60 h61 => ?_
    walk_at "kf1"
    refine ⟨_, rfl, by omega, by omega, fun q hq => ?_⟩
    try dsimp only
    walk_at "tg"
    exact hR (.give (.take "z" (.mk "a") p) q) ((tw_give (tw_take in_z ka_ok (by simp [Kd.depth]) h) hq).le (by omega) (by omega))
  · rintro pre z rest e ρ O' ⟨p, y, rfl, rfl, h⟩ N hN
    walk_at "kf1"
    walk_at "tg"
    exact hN _ _ ⟨.pair .thing p, _, rfl, rfl, (tw_pair tw_thing h).le (by rw [List.length_append, List.length_singleton]; omega) (by rw [List.length_append, List.length_singleton]; omega)⟩
end
end Kf
namespace Kf
open PySem PySem.Spec L2
open PyProof.Rows hiding St
local macro_rules | `(tactic| walk_at "kf") => `(tactic| simp (config := { failIfUnchanged := false }) only [startD, ap_fiEnumT, asT1_t, ap_fKGet, asStr_s, ap_fKIn, ap_fKIx, ap_gAsgL, rUnl_l, ap_fiRng3, asR3_i, rSplitO_s, ap_fOrL, rOrL_l, ap_fLcK, ap_gForK, ap_fMaxD, rMaxD_l, rMaxL_l, ap_fCallXD, ap_gForE, asLE_l, ap_fFrz, ap_fDicO, ap_fDGet, ap_fDGet1, ap_fDGet2, ap_gDPut, ap_fIsiT, ap_gForR, rRep_l, isT_i, isT_s, isT_b, isT_n, isT_t, isT_l, ap_gSeq, ap_gIf, ap_gRet, ap_gNext, ap_gSet, ap_gAsg, ap_gDrop, ap_gRetF, ap_gRetN, ap_gFor, ap_gSetIx, ap_gBreak, ap_fRev, ap_fiRevR, asIR_i, rRev_l, ap_fCallX, ap_gRaise, ap_gTry, ap_gTryAs, ap_gNever, ap_fEdic, ap_fTest, ap_fOp, ap_fVar, envGet_s, patGet_s, ap_fC, ap_fCB, ap_fCons, ap_fNil, ap_fCall, ap_fAnd, ap_fOr, ap_fNot, ap_fAndV, ap_fOrV, ap_fNotV, ap_fIf, ap_fTup, ap_fLst, ap_fLstO, ap_fChain, ap_fUn, ap_fBM, ap_fBM0, ap_fPool, rPool_i, ap_fSl, ap_fPart, ap_fNoPart, asI_i, rSl_l, ap_fiRng1, ap_fiRng2, ap_fiList, ap_fiTup, ap_fiStr, ap_fiEnum, ap_fiZip, ap_fiRev, asL_l, asT_t, asSg_s, asR1_i, asR2_i, asL1_l, asL2_l, ap_fLc, ap_fLcO, ap_fYes, wipeD, lcD, isi_i_int, isi_i_bool, isi_i_str, isi_i_tuple, isi_i_list, isi_i_dict, isi_b_int, isi_b_bool, isi_b_str, isi_b_tuple, isi_b_list, isi_b_dict, isi_s_int, isi_s_bool, isi_s_str, isi_s_tuple, isi_s_list, isi_s_dict, isi_t_int, isi_t_bool, isi_t_str, isi_t_tuple, isi_t_list, isi_t_dict, isi_l_int, isi_l_bool, isi_l_str, isi_l_tuple, isi_l_list, isi_l_dict, isi_n_int, isi_n_bool, isi_n_str, isi_n_tuple, isi_n_list, isi_n_dict, isi_d_int, isi_d_bool, isi_d_str, isi_d_tuple, isi_d_list, isi_d_dict,
  deref_tup, deref_lst, deref_int, deref_str, deref_bl, deref_non, deref_scr, rLt_i, rLt_s, rLe_i, rLe_s, rInts_i, rInts0_i, rAdd_i, rAdd_s, rAdd_l, rAdd_t, rCatO_l, rNeg_i, rLen_t, rLen_l, rLen_c, rLen_s, rMax_i, rMin_i, rInt_i, rInt_b, rDivmod_i, ap_gAug, rStr_i, rList_l, rList_t, rListO_l, rListO_t, rTup_l, rTup_t,
  rIx_t0, rIx_t1, rIx_t2, rIx_t3, rIx_l0, rIx_l1, rIx_l2, rIsN_x, isNon_t, isNon_n, isNon_i, isNon_s, isNon_l, rEq_i, rEq_b, rEq_i2, rEq_b2, rJoin_m, rSplit_s, tyOk_l, tyOk_s, patD_nm, patD_tp, patDs_nil, patDs_cons, Option.bind_some, notX, notX',
  List.map_cons, List.map_nil, List.length_cons, List.length_nil, List.cons_append, List.nil_append, List.append_nil, List.replicate, List.getElem?_cons_zero, List.getElem?_cons_succ, List.set_cons_zero, List.set_cons_succ, updO_same, updO_updO,
  Nat.reduceSub, Nat.reduceAdd, Nat.reduceLeDiff, Nat.zero_add, Int.cast_ofNat_Int, Int.natCast_zero, Int.natCast_one, Int.reduceLT, Int.reduceLE, Int.reduceEq, Int.reduceAdd, Int.reduceSub, Int.reduceNeg, decide_true, decide_false, if_true, if_false, Bool.false_eq_true, eq_self, reduceIte, Bool.true_eq_false, decide_eq_true_eq, Bool.not_true, Bool.not_false, Bool.not_eq_true', decide_eq_false_iff_not, exists_eq_left', exists_eq_left, D.bl.injEq, true_and, and_true, not_true_eq_false, not_false_eq_true])
local macro_rules | `(tactic| walk_at "len") => `(tactic| (intro ds O R RE h; first | (obtain ⟨e, _⟩ := h; subst e; rfl) | (obtain ⟨_, e, _⟩ := h; subst e; rfl) | (obtain ⟨_, _, e, _⟩ := h; subst e; rfl) | (obtain ⟨_, _, _, e, _⟩ := h; subst e; rfl) | (obtain ⟨_, _, _, _, e, _⟩ := h; subst e; rfl) | (obtain ⟨_, _, _, _, _, e, _⟩ := h; subst e; rfl) | (obtain ⟨_, _, _, _, _, _, e, _⟩ := h; subst e; rfl) | (obtain ⟨_, _, _, _, _, _, _, e, _⟩ := h; subst e; rfl) | (obtain ⟨_, _, _, _, _, _, _, _, e, _⟩ := h; subst e; rfl) | (obtain ⟨_, _, _, _, _, _, _, _, _, e, _⟩ := h; subst e; rfl)))
local macro_rules | `(tactic| walk_at "kf1") => `(tactic| simp (config := { failIfUnchanged := false }) only [startD, ap_fiEnumT, asT1_t, ap_fKGet, asStr_s, ap_fKIn, ap_fKIx, ap_gAsgL, rUnl_l, ap_fiRng3, asR3_i, rSplitO_s, ap_fOrL, rOrL_l, ap_fLcK, ap_gForK, ap_fMaxD, rMaxD_l, rMaxL_l, ap_fCallXD, ap_gForE, asLE_l, ap_fFrz, ap_fDicO, ap_fDGet, ap_fDGet1, ap_fDGet2, ap_gDPut, ap_fIsiT, ap_gForR, rRep_l, isT_i, isT_s, isT_b, isT_n, isT_t, isT_l, ap_gIf, ap_gRet, ap_gNext, ap_gSet, ap_gAsg, ap_gDrop, ap_gRetF, ap_gRetN, ap_gFor, ap_gSetIx, ap_gBreak, ap_fRev, ap_fiRevR, asIR_i, rRev_l, ap_fCallX, ap_gRaise, ap_gTry, ap_gTryAs, ap_gNever, ap_fEdic, ap_fTest, ap_fOp, ap_fVar, envGet_s, patGet_s, ap_fC, ap_fCB, ap_fCons, ap_fNil, ap_fCall, ap_fAnd, ap_fOr, ap_fNot, ap_fAndV, ap_fOrV, ap_fNotV, ap_fIf, ap_fTup, ap_fLst, ap_fLstO, ap_fChain, ap_fUn, ap_fBM, ap_fBM0, ap_fPool, rPool_i, ap_fSl, ap_fPart, ap_fNoPart, asI_i, rSl_l, ap_fiRng1, ap_fiRng2, ap_fiList, ap_fiTup, ap_fiStr, ap_fiEnum, ap_fiZip, ap_fiRev, asL_l, asT_t, asSg_s, asR1_i, asR2_i, asL1_l, asL2_l, ap_fLc, ap_fLcO, ap_fYes, wipeD, lcD, isi_i_int, isi_i_bool, isi_i_str, isi_i_tuple, isi_i_list, isi_i_dict, isi_b_int, isi_b_bool, isi_b_str, isi_b_tuple, isi_b_list, isi_b_dict, isi_s_int, isi_s_bool, isi_s_str, isi_s_tuple, isi_s_list, isi_s_dict, isi_t_int, isi_t_bool, isi_t_str, isi_t_tuple, isi_t_list, isi_t_dict, isi_l_int, isi_l_bool, isi_l_str, isi_l_tuple, isi_l_list, isi_l_dict, isi_n_int, isi_n_bool, isi_n_str, isi_n_tuple, isi_n_list, isi_n_dict, isi_d_int, isi_d_bool, isi_d_str, isi_d_tuple, isi_d_list, isi_d_dict,
  deref_tup, deref_lst, deref_int, deref_str, deref_bl, deref_non, deref_scr, rLt_i, rLt_s, rLe_i, rLe_s, rInts_i, rInts0_i, rAdd_i, rAdd_s, rAdd_l, rAdd_t, rCatO_l, rNeg_i, rLen_t, rLen_l, rLen_c, rLen_s, rMax_i, rMin_i, rInt_i, rInt_b, rDivmod_i, ap_gAug, rStr_i, rList_l, rList_t, rListO_l, rListO_t, rTup_l, rTup_t,
  rIx_t0, rIx_t1, rIx_t2, rIx_t3, rIx_l0, rIx_l1, rIx_l2, rIsN_x, isNon_t, isNon_n, isNon_i, isNon_s, isNon_l, rEq_i, rEq_b, rEq_i2, rEq_b2, rJoin_m, rSplit_s, tyOk_l, tyOk_s, patD_nm, patD_tp, patDs_nil, patDs_cons, Option.bind_some, notX, notX',
  List.map_cons, List.map_nil, List.length_cons, List.length_nil, List.cons_append, List.nil_append, List.append_nil, List.replicate, List.getElem?_cons_zero, List.getElem?_cons_succ, List.set_cons_zero, List.set_cons_succ, updO_same, updO_updO,
  Nat.reduceSub, Nat.reduceAdd, Nat.reduceLeDiff, Nat.zero_add, Int.cast_ofNat_Int, Int.natCast_zero, Int.natCast_one, Int.reduceLT, Int.reduceLE, Int.reduceEq, Int.reduceAdd, Int.reduceSub, Int.reduceNeg, decide_true, decide_false, if_true, if_false, Bool.false_eq_true, eq_self, reduceIte, Bool.true_eq_false, decide_eq_true_eq, Bool.not_true, Bool.not_false, Bool.not_eq_true', decide_eq_false_iff_not, exists_eq_left', exists_eq_left, D.bl.injEq, true_and, and_true, not_true_eq_false, not_false_eq_true])
section
variable {P : Program} {w : World} {K : PySem.W.Frag} {mg : Str → Option Value} {base : Heap}
local macro_rules | `(tactic| walk_at "tg") => `(tactic| simp (config := { failIfUnchanged := false }) only [te_name_take, te_name_give, te_name_pair, te_name_first, te_name_second, te_name_to, te_name_both, te_name_one, te_name_mark, te_name_name, te_name_thing, te_name_at, te_thing_take, te_thing_give, te_thing_pair, te_thing_first, te_thing_second, te_thing_to, te_thing_both, te_thing_one, te_thing_mark, te_thing_name, te_thing_thing, te_thing_at, te_take_take, te_take_give, te_take_pair, te_take_first, te_take_second, te_take_to, te_take_both, te_take_one, te_take_mark, te_take_name, te_take_thing, te_take_at, te_give_take, te_give_give, te_give_pair, te_give_first, te_give_second, te_give_to, te_give_both, te_give_one, te_give_mark, te_give_name, te_give_thing, te_give_at, te_pair_take, te_pair_give, te_pair_pair, te_pair_first, te_pair_second, te_pair_to, te_pair_both, te_pair_one, te_pair_mark, te_pair_name, te_pair_thing, te_pair_at, te_first_take, te_first_give, te_first_pair, te_first_first, te_first_second, te_first_to, te_first_both, te_first_one, te_first_mark, te_first_name, te_first_thing, te_first_at, te_second_take, te_second_give, te_second_pair, te_second_first, te_second_second, te_second_to, te_second_both, te_second_one, te_second_mark, te_second_name, te_second_thing, te_second_at, te_mark_take, te_mark_give, te_mark_pair, te_mark_first, te_mark_second, te_mark_to, te_mark_both, te_mark_one, te_mark_mark, te_mark_name, te_mark_thing, te_mark_at, te_one_take, te_one_give, te_one_pair, te_one_first, te_one_second, te_one_to, te_one_both, te_one_one, te_one_mark, te_one_name, te_one_thing, te_one_at, te_to_take, te_to_give, te_to_pair, te_to_first, te_to_second, te_to_to, te_to_both, te_to_one, te_to_mark, te_to_name, te_to_thing, te_to_at, te_both_take, te_both_give, te_both_pair, te_both_first, te_both_second, te_both_to, te_both_both, te_both_one, te_both_mark, te_both_name, te_both_thing, te_both_at, te_at_take, te_at_give, te_at_pair, te_at_first, te_at_second, te_at_to, te_at_both, te_at_one, te_at_mark, te_at_name, te_at_thing, te_at_at, ti4_name, ti4_thing, ti4_take, ti4_give, ti4_pair, ti4_first, ti4_second, ti2_name, ti2_thing, ti2_take, ti2_give, ti2_pair, ti2_first, ti2_second, szT_0, szT_1, szT_2, szT_3, szT_4, szT_5, szT_6, szT_7, szT_8, szT_9, szT_10, szT_11, szT_12, Bool.not_true, Bool.not_false, true_and])
theorem RoomC.mono {j k : Nat} {A : Around} (r : RoomC k A) (h : j ≤ k) : RoomC j A := ⟨by have := r.dp; omega, by have := r.un; omega⟩
theorem fnCUp {CX : CXT} {k k' : Nat} {f : Addr} {fd : FuncData} {ps : List Str} {sp : Sp} (h : FnC P w K mg base CX k f fd ps sp) (hk : k ≤ k') : FnC P w K mg base CX k' f fd ps sp :=
  ⟨h.len, fun A outer s H args us vs Q E hr => h.run A outer s H args us vs Q E (hr.mono hk)⟩
/-- what the law's own run tells -/
def dRes (pks : List Int) (b : Db) : D := match runB pks 200 0 b [] with
  | some (b', log) => .tup [dP (dress b' 0), .lst (log.map dI)]
  | none => .non
theorem runD {pks : List Int} {b : Db} : (∀ b' log, runB pks 200 0 b [] = some (b', log) → dRes pks b = .tup [dP (dress b' 0), .lst (log.map dI)]) ∧ (runB pks 200 0 b [] = none → dRes pks b = .non) := by
  refine ⟨fun b' log e => by simp only [dRes, e], fun e => by simp only [dRes, e]⟩
theorem odd19 (T : Tx K mg) : PySem.W.kitAny K (.ref T.C_TooLong) [.ref T.C_NoFit, .ref T.C_NoKind, .ref T.C_NoLong, .ref T.C_NoMaking, .ref T.C_NoNumber, .ref T.C_NoStep, .ref T.C_NoText, .ref T.C_TooMany] = some false := by
  refine kitAny_no fun c hc => ?_
  simp only [List.mem_cons, List.not_mem_nil, or_false] at hc
  rcases hc with rfl | rfl | rfl | rfl | rfl | rfl | rfl | rfl
  · exact T.k_NoFit.kit T.sb_TooLong_NoFit
  · exact T.k_NoKind.kit T.sb_TooLong_NoKind
  · exact T.k_NoLong.kit T.sb_TooLong_NoLong
  · exact T.k_NoMaking.kit T.sb_TooLong_NoMaking
  · exact T.k_NoNumber.kit T.sb_TooLong_NoNumber
  · exact T.k_NoStep.kit T.sb_TooLong_NoStep
  · exact T.k_NoText.kit T.sb_TooLong_NoText
  · exact T.k_TooMany.kit T.sb_TooLong_TooMany
theorem rIsXD_t {O : Ow} {Q : VD} {a C : Addr} {fs : Option (List (Str × D))} {cs : List D} {us : List Value} {b : Bool} (h : O a = some (.exc (.ref C) fs)) (hC : ExcC K C) (p : Paired clsD cs us) (e : PySem.W.kitAny K (.ref C) us = some b) (q : Q (.bl b) O) : rIsXD K [.ref a, .tup cs] O Q := ⟨C, fs, us, b, h, hC, p, e, q⟩
theorem rIsXD_r {O : Ow} {Q : VD} {a C c : Addr} {fs : Option (List (Str × D))} {b : Bool} (h : O a = some (.exc (.ref C) fs)) (hC : ExcC K C) (e : PySem.W.kitOne K (.ref C) (.ref c) = some b) (q : Q (.bl b) O) : rIsXD K [.ref a, .ref c] O Q := ⟨C, fs, .ref c, b, h, hC, rfl, e, q⟩
theorem rIsXD_y {O : Ow} {Q : VD} {a C : Addr} {c : String} {fs : Option (List (Str × D))} {b : Bool} (h : O a = some (.exc (.ref C) fs)) (hC : ExcC K C) (e : PySem.W.kitOne K (.ref C) (.type c) = some b) (q : Q (.bl b) O) : rIsXD K [.ref a, .ty c] O Q := ⟨C, fs, .type c, b, h, hC, rfl, e, q⟩
def spOdd (C : Addr) : DSp := fun ds O R _ => ∃ a fs, ds = [.ref a] ∧ O a = some (.exc (.ref C) fs) ∧ R (.bl false) O
theorem ok_odd (T : Tx K mg) : FO__law_odd P w base T 1 (spOdd T.C_TooLong) := by
  refine fnd__law_odd T (by walk_at "len") ?_
  rintro ds O R RE ⟨a, fs, rfl, ha, hR⟩
  unfold g__law_odd
  refine gSeq_step ?_
  walk_at "kf1"
  refine ⟨by decide, ?_⟩
  refine rIsXD_t ha T.ec_TooLong (.cons rfl (.cons rfl (.cons rfl (.cons rfl (.cons rfl (.cons rfl (.cons rfl (.cons rfl .nil)))))))) (odd19 T) ?_
  walk_at "kf1"
  refine rIsXD_r ha T.ec_TooLong (T.k_TooLong.kit T.k_TooLong.sf) ?_
  walk_at "kf1"
  refine rIsXD_y ha T.ec_TooLong (kit_VE T.sb_TooLong_ValueError) ?_
  walk_at "kf1"
  exact hR
def spTold : DSp := fun ds O R _ => ∃ (p : Pg) (pks : List Int), ds = [dP p, .lst (pks.map .int)] ∧ (p.hgt ≤ 100 ∧ p.sok = true ∧ Good (bare p [])) ∧ R (.lst [dRes pks (bare p []), .bl false]) O
theorem ok_told (T : Tx K mg) : FO__law_told P w base T 211 spTold := by
  refine fndG__law_told T (ok_runF T) (fnCUp (ok_odd T) (by omega)) (by walk_at "len") ?_
  rintro ds O R RE ⟨p, pks, rfl, ⟨hh, hs, hg⟩, hR⟩
  unfold g__law_told
  refine gSeq_step ?_
  walk_at "kf1"
  refine gSeq_step ?_
  walk_at "kf1"
  refine gSeq_step ?_
  rw [ap_gTryHs]
  walk_at "kf1"
  refine ⟨p, bare p [], _, pks, rfl, .inr rfl, tidy_eq p [], hg, by omega, hs, fun b' log e => ?_, fun e => ⟨true, T.k_KindError.exm T.sb_TooLong_KindError, fun _ a ha => ?_, fun h => nomatch h⟩⟩
  · try dsimp only
    walk_at "kf1"
    walk_at "tg"
    rw [runD.1 b' log e] at hR
    exact .at hR
  · rw [runD.2 e] at hR
    walk_at "kf1"
    refine ⟨a, none, rfl, updO_same, ?_⟩
    simp only [endsHas]
    walk_at "kf1"
    walk_at "tg"
    exact .up ha hR
end
end Kf
namespace Kf
open PySem PySem.Spec L2
open PyProof.Rows hiding St
local macro_rules | `(tactic| walk_at "kf") => `(tactic| simp (config := { failIfUnchanged := false }) only [startD, ap_fiEnumT, asT1_t, ap_fKGet, asStr_s, ap_fKIn, ap_fKIx, ap_gAsgL, rUnl_l, ap_fiRng3, asR3_i, rSplitO_s, ap_fOrL, rOrL_l, ap_fLcK, ap_gForK, ap_fMaxD, rMaxD_l, rMaxL_l, ap_fCallXD, ap_gForE, asLE_l, ap_fFrz, ap_fDicO, ap_fDGet, ap_fDGet1, ap_fDGet2, ap_gDPut, ap_fIsiT, ap_gForR, rRep_l, isT_i, isT_s, isT_b, isT_n, isT_t, isT_l, ap_gSeq, ap_gIf, ap_gRet, ap_gNext, ap_gSet, ap_gAsg, ap_gDrop, ap_gRetF, ap_gRetN, ap_gFor, ap_gSetIx, ap_gBreak, ap_fRev, ap_fiRevR, asIR_i, rRev_l, ap_fCallX, ap_gRaise, ap_gTry, ap_gTryAs, ap_gNever, ap_fEdic, ap_fTest, ap_fOp, ap_fVar, envGet_s, patGet_s, ap_fC, ap_fCB, ap_fCons, ap_fNil, ap_fCall, ap_fAnd, ap_fOr, ap_fNot, ap_fAndV, ap_fOrV, ap_fNotV, ap_fIf, ap_fTup, ap_fLst, ap_fLstO, ap_fChain, ap_fUn, ap_fBM, ap_fBM0, ap_fPool, rPool_i, ap_fSl, ap_fPart, ap_fNoPart, asI_i, rSl_l, ap_fiRng1, ap_fiRng2, ap_fiList, ap_fiTup, ap_fiStr, ap_fiEnum, ap_fiZip, ap_fiRev, asL_l, asT_t, asSg_s, asR1_i, asR2_i, asL1_l, asL2_l, ap_fLc, ap_fLcO, ap_fYes, wipeD, lcD, isi_i_int, isi_i_bool, isi_i_str, isi_i_tuple, isi_i_list, isi_i_dict, isi_b_int, isi_b_bool, isi_b_str, isi_b_tuple, isi_b_list, isi_b_dict, isi_s_int, isi_s_bool, isi_s_str, isi_s_tuple, isi_s_list, isi_s_dict, isi_t_int, isi_t_bool, isi_t_str, isi_t_tuple, isi_t_list, isi_t_dict, isi_l_int, isi_l_bool, isi_l_str, isi_l_tuple, isi_l_list, isi_l_dict, isi_n_int, isi_n_bool, isi_n_str, isi_n_tuple, isi_n_list, isi_n_dict, isi_d_int, isi_d_bool, isi_d_str, isi_d_tuple, isi_d_list, isi_d_dict,
  deref_tup, deref_lst, deref_int, deref_str, deref_bl, deref_non, deref_scr, rLt_i, rLt_s, rLe_i, rLe_s, rInts_i, rInts0_i, rAdd_i, rAdd_s, rAdd_l, rAdd_t, rCatO_l, rNeg_i, rLen_t, rLen_l, rLen_c, rLen_s, rMax_i, rMin_i, rInt_i, rInt_b, rDivmod_i, ap_gAug, rStr_i, rList_l, rList_t, rListO_l, rListO_t, rTup_l, rTup_t,
  rIx_t0, rIx_t1, rIx_t2, rIx_t3, rIx_l0, rIx_l1, rIx_l2, rIsN_x, isNon_t, isNon_n, isNon_i, isNon_s, isNon_l, rEq_i, rEq_b, rEq_i2, rEq_b2, rJoin_m, rSplit_s, tyOk_l, tyOk_s, patD_nm, patD_tp, patDs_nil, patDs_cons, Option.bind_some, notX, notX',
  List.map_cons, List.map_nil, List.length_cons, List.length_nil, List.cons_append, List.nil_append, List.append_nil, List.replicate, List.getElem?_cons_zero, List.getElem?_cons_succ, List.set_cons_zero, List.set_cons_succ, updO_same, updO_updO,
  Nat.reduceSub, Nat.reduceAdd, Nat.reduceLeDiff, Nat.zero_add, Int.cast_ofNat_Int, Int.natCast_zero, Int.natCast_one, Int.reduceLT, Int.reduceLE, Int.reduceEq, Int.reduceAdd, Int.reduceSub, Int.reduceNeg, decide_true, decide_false, if_true, if_false, Bool.false_eq_true, eq_self, reduceIte, Bool.true_eq_false, decide_eq_true_eq, Bool.not_true, Bool.not_false, Bool.not_eq_true', decide_eq_false_iff_not, exists_eq_left', exists_eq_left, D.bl.injEq, true_and, and_true, not_true_eq_false, not_false_eq_true])
local macro_rules | `(tactic| walk_at "len") => `(tactic| (intro ds O R RE h; first | (obtain ⟨e, _⟩ := h; subst e; rfl) | (obtain ⟨_, e, _⟩ := h; subst e; rfl) | (obtain ⟨_, _, e, _⟩ := h; subst e; rfl) | (obtain ⟨_, _, _, e, _⟩ := h; subst e; rfl) | (obtain ⟨_, _, _, _, e, _⟩ := h; subst e; rfl) | (obtain ⟨_, _, _, _, _, e, _⟩ := h; subst e; rfl) | (obtain ⟨_, _, _, _, _, _, e, _⟩ := h; subst e; rfl) | (obtain ⟨_, _, _, _, _, _, _, e, _⟩ := h; subst e; rfl) | (obtain ⟨_, _, _, _, _, _, _, _, e, _⟩ := h; subst e; rfl) | (obtain ⟨_, _, _, _, _, _, _, _, _, e, _⟩ := h; subst e; rfl)))
local macro_rules | `(tactic| walk_at "kf1") => `(tactic| simp (config := { failIfUnchanged := false }) only [startD, ap_fiEnumT, asT1_t, ap_fKGet, asStr_s, ap_fKIn, ap_fKIx, ap_gAsgL, rUnl_l, ap_fiRng3, asR3_i, rSplitO_s, ap_fOrL, rOrL_l, ap_fLcK, ap_gForK, ap_fMaxD, rMaxD_l, rMaxL_l, ap_fCallXD, ap_gForE, asLE_l, ap_fFrz, ap_fDicO, ap_fDGet, ap_fDGet1, ap_fDGet2, ap_gDPut, ap_fIsiT, ap_gForR, rRep_l, isT_i, isT_s, isT_b, isT_n, isT_t, isT_l, ap_gIf, ap_gRet, ap_gNext, ap_gSet, ap_gAsg, ap_gDrop, ap_gRetF, ap_gRetN, ap_gFor, ap_gSetIx, ap_gBreak, ap_fRev, ap_fiRevR, asIR_i, rRev_l, ap_fCallX, ap_gRaise, ap_gTry, ap_gTryAs, ap_gNever, ap_fEdic, ap_fTest, ap_fOp, ap_fVar, envGet_s, patGet_s, ap_fC, ap_fCB, ap_fCons, ap_fNil, ap_fCall, ap_fAnd, ap_fOr, ap_fNot, ap_fAndV, ap_fOrV, ap_fNotV, ap_fIf, ap_fTup, ap_fLst, ap_fLstO, ap_fChain, ap_fUn, ap_fBM, ap_fBM0, ap_fPool, rPool_i, ap_fSl, ap_fPart, ap_fNoPart, asI_i, rSl_l, ap_fiRng1, ap_fiRng2, ap_fiList, ap_fiTup, ap_fiStr, ap_fiEnum, ap_fiZip, ap_fiRev, asL_l, asT_t, asSg_s, asR1_i, asR2_i, asL1_l, asL2_l, ap_fLc, ap_fLcO, ap_fYes, wipeD, lcD, isi_i_int, isi_i_bool, isi_i_str, isi_i_tuple, isi_i_list, isi_i_dict, isi_b_int, isi_b_bool, isi_b_str, isi_b_tuple, isi_b_list, isi_b_dict, isi_s_int, isi_s_bool, isi_s_str, isi_s_tuple, isi_s_list, isi_s_dict, isi_t_int, isi_t_bool, isi_t_str, isi_t_tuple, isi_t_list, isi_t_dict, isi_l_int, isi_l_bool, isi_l_str, isi_l_tuple, isi_l_list, isi_l_dict, isi_n_int, isi_n_bool, isi_n_str, isi_n_tuple, isi_n_list, isi_n_dict, isi_d_int, isi_d_bool, isi_d_str, isi_d_tuple, isi_d_list, isi_d_dict,
  deref_tup, deref_lst, deref_int, deref_str, deref_bl, deref_non, deref_scr, rLt_i, rLt_s, rLe_i, rLe_s, rInts_i, rInts0_i, rAdd_i, rAdd_s, rAdd_l, rAdd_t, rCatO_l, rNeg_i, rLen_t, rLen_l, rLen_c, rLen_s, rMax_i, rMin_i, rInt_i, rInt_b, rDivmod_i, ap_gAug, rStr_i, rList_l, rList_t, rListO_l, rListO_t, rTup_l, rTup_t,
  rIx_t0, rIx_t1, rIx_t2, rIx_t3, rIx_l0, rIx_l1, rIx_l2, rIsN_x, isNon_t, isNon_n, isNon_i, isNon_s, isNon_l, rEq_i, rEq_b, rEq_i2, rEq_b2, rJoin_m, rSplit_s, tyOk_l, tyOk_s, patD_nm, patD_tp, patDs_nil, patDs_cons, Option.bind_some, notX, notX',
  List.map_cons, List.map_nil, List.length_cons, List.length_nil, List.cons_append, List.nil_append, List.append_nil, List.replicate, List.getElem?_cons_zero, List.getElem?_cons_succ, List.set_cons_zero, List.set_cons_succ, updO_same, updO_updO,
  Nat.reduceSub, Nat.reduceAdd, Nat.reduceLeDiff, Nat.zero_add, Int.cast_ofNat_Int, Int.natCast_zero, Int.natCast_one, Int.reduceLT, Int.reduceLE, Int.reduceEq, Int.reduceAdd, Int.reduceSub, Int.reduceNeg, decide_true, decide_false, if_true, if_false, Bool.false_eq_true, eq_self, reduceIte, Bool.true_eq_false, decide_eq_true_eq, Bool.not_true, Bool.not_false, Bool.not_eq_true', decide_eq_false_iff_not, exists_eq_left', exists_eq_left, D.bl.injEq, true_and, and_true, not_true_eq_false, not_false_eq_true])
section
variable {P : Program} {w : World} {K : PySem.W.Frag} {mg : Str → Option Value} {base : Heap}
local macro_rules | `(tactic| walk_at "tg") => `(tactic| simp (config := { failIfUnchanged := false }) only [te_name_take, te_name_give, te_name_pair, te_name_first, te_name_second, te_name_to, te_name_both, te_name_one, te_name_mark, te_name_name, te_name_thing, te_name_at, te_thing_take, te_thing_give, te_thing_pair, te_thing_first, te_thing_second, te_thing_to, te_thing_both, te_thing_one, te_thing_mark, te_thing_name, te_thing_thing, te_thing_at, te_take_take, te_take_give, te_take_pair, te_take_first, te_take_second, te_take_to, te_take_both, te_take_one, te_take_mark, te_take_name, te_take_thing, te_take_at, te_give_take, te_give_give, te_give_pair, te_give_first, te_give_second, te_give_to, te_give_both, te_give_one, te_give_mark, te_give_name, te_give_thing, te_give_at, te_pair_take, te_pair_give, te_pair_pair, te_pair_first, te_pair_second, te_pair_to, te_pair_both, te_pair_one, te_pair_mark, te_pair_name, te_pair_thing, te_pair_at, te_first_take, te_first_give, te_first_pair, te_first_first, te_first_second, te_first_to, te_first_both, te_first_one, te_first_mark, te_first_name, te_first_thing, te_first_at, te_second_take, te_second_give, te_second_pair, te_second_first, te_second_second, te_second_to, te_second_both, te_second_one, te_second_mark, te_second_name, te_second_thing, te_second_at, te_mark_take, te_mark_give, te_mark_pair, te_mark_first, te_mark_second, te_mark_to, te_mark_both, te_mark_one, te_mark_mark, te_mark_name, te_mark_thing, te_mark_at, te_one_take, te_one_give, te_one_pair, te_one_first, te_one_second, te_one_to, te_one_both, te_one_one, te_one_mark, te_one_name, te_one_thing, te_one_at, te_to_take, te_to_give, te_to_pair, te_to_first, te_to_second, te_to_to, te_to_both, te_to_one, te_to_mark, te_to_name, te_to_thing, te_to_at, te_both_take, te_both_give, te_both_pair, te_both_first, te_both_second, te_both_to, te_both_both, te_both_one, te_both_mark, te_both_name, te_both_thing, te_both_at, te_at_take, te_at_give, te_at_pair, te_at_first, te_at_second, te_at_to, te_at_both, te_at_one, te_at_mark, te_at_name, te_at_thing, te_at_at, ti4_name, ti4_thing, ti4_take, ti4_give, ti4_pair, ti4_first, ti4_second, ti2_name, ti2_thing, ti2_take, ti2_give, ti2_pair, ti2_first, ti2_second, szT_0, szT_1, szT_2, szT_3, szT_4, szT_5, szT_6, szT_7, szT_8, szT_9, szT_10, szT_11, szT_12, Bool.not_true, Bool.not_false, true_and])
theorem deq_dPr : ∀ p : Pg, deq (dP p) (dP p) = true
  | .nm x => by simp [dP, deq_t, deqs_cc, deqs_nn, deq_s]
  | .thing => by simp [dP, deq_t, deqs_cc, deqs_nn, deq_s]
  | .take x k b => by simp [dP, deq_t, deqs_cc, deqs_nn, deq_s, deq_K, deq_dPr b]
  | .give f a => by simp [dP, deq_t, deqs_cc, deqs_nn, deq_s, deq_dPr f, deq_dPr a]
  | .pair f a => by simp [dP, deq_t, deqs_cc, deqs_nn, deq_s, deq_dPr f, deq_dPr a]
  | .first f => by simp [dP, deq_t, deqs_cc, deqs_nn, deq_s, deq_dPr f]
  | .second f => by simp [dP, deq_t, deqs_cc, deqs_nn, deq_s, deq_dPr f]
theorem good_res {pks : List Int} {b b' : Db} {log : List (List Int)} (g : Good b) (h : runB pks 200 0 b [] = some (b', log)) : (dress b' 0).sok = true ∧ (dress b' 0).dpt ≤ 180 := by
  have g' := (run_good 200 0 b [] b' log g h).1
  have := ok_dressB b' 0 g'.ok (by have := g'.hg; omega)
  exact ⟨this.1, by have := g'.hg; omega⟩
def gRest19 (sp__law_bare sp__law_run sp__law_take sp__law_told : DSp) : GS := (gSeq (gSet (fLc (fiRng1 (fCons (fCall sp__law_take (fCons (fVar 2) (fCons (fC (.int 4)) fNil))) fNil)) (.nm 10) fYes (fCall sp__law_take (fCons (fVar 2) (fCons (fC (.int 1000)) fNil))) [10]) 6) (gSeq (gSet (fCB rList1 (fCons (fVar 6) fNil)) 7) (gSeq (gSet (fCall sp__law_run (fCons (fCall sp__law_bare (fCons (fVar 5) (fCons (fLst fNil) fNil))) (fCons (fVar 6) fNil))) 8) (gIf (fOr (fTest (fOp (rEqD true) (fCall sp__law_told (fCons (fVar 5) (fCons (fVar 7) fNil))) (fLst (fCons (fVar 8) (fCons (fC (.bl false)) fNil))))) (fTest (fOp (rEqD true) (fVar 7) (fVar 6)))) (gRet (fC (.bl false))) gNext))))
theorem dRes_ok {pks : List Int} {b : Db} (g : Good b) : isPy (dRes pks b) = true ∧ dp (dRes pks b) ≤ 185 ∧ deq (dRes pks b) (dRes pks b) = true := by
  unfold dRes
  cases e : runB pks 200 0 b [] with
  | none => exact ⟨by simp [isPy], by rw [dpO]; omega, deq_nn⟩
  | some r =>
    obtain ⟨b', log⟩ := r
    obtain ⟨hs, hd⟩ := good_res g e
    have hq : isPy (dP (dress b' 0)) = true := by rw [isPy_dP]; exact hs
    refine ⟨by simp [isPy, isPys, hq, isPys_dI], ?_, ?_⟩
    · have k1 := dp_dP (dress b' 0)
      have k2 := dp_dI log
      show dp (.tup [dP (dress b' 0), .lst (log.map dI)]) ≤ 185
      rw [dpT, dpC, dpC, dpN]
      omega
    · show deq (.tup [dP (dress b' 0), .lst (log.map dI)]) (.tup [dP (dress b' 0), .lst (log.map dI)]) = true
      rw [deq_t, deqs_cc, deqs_cc, deqs_nn, deq_dPr, deq_l, deqs_dI]
      rfl
theorem rEq_tld {O : Ow} {neg : Bool} {Q : VD} {pks : List Int} {b : Db} (g : Good b) : rEqD neg (.lst [dRes pks b, .bl false]) (.lst [dRes pks b, .bl false]) O Q = Q (.bl (!neg)) O := by
  obtain ⟨h1, h2, h3⟩ := dRes_ok (pks := pks) g
  rw [rEq_d (by rw [deref_lst]; simp [isPy, isPys, h1]) (by rw [deref_lst]; simp [isPy, isPys, h1]) (by rw [deref_lst, dpL, dpC, dpC, dpN, dpB]; omega), deref_lst]
  rw [deq_l, deqs_cc, deqs_cc, deqs_nn, h3]
  cases neg <;> rfl
theorem rest19 {R : DEnds} {ns : List Int} {O : Ow} {pa : Addr} {p : Pg} {x1 x3 x4 x6 x7 x8 x9 x10 : Option D} (hp : O pa = some .pool) (h : Tw 100 4194304 p)
    (hN : ∀ x6 x7 x8 x10, R.nx [some (.scr ns), x1, some (.ref pa), x3, x4, some (dP p), x6, x7, x8, x9, x10] O) : gRest19 (spBare 101) spLRun spTake spTold R [some (.scr ns), x1, some (.ref pa), x3, x4, some (dP p), x6, x7, x8, x9, x10] O := by
  have hpo := tw_fits h
  unfold gRest19
  refine gSeq_step ?_
  walk_at "kf1"
  refine take_of hp (by decide) (by decide) fun m hm0 hm1 => ?_
  walk_at "kf1"
  refine ⟨by omega, by omega, ?_⟩
  rw [rangeD_map]
  refine lcA_all (β := Int) (fun _ => True) (fun i : Nat => D.int (0 + (i : Int))) D.int (List.range m.toNat) _ _ (sz_small (by rw [List.length_range, List.length_nil]; omega)) ?_ ?_
  · intro u hu Q' hQ'
    walk_at "kf1"
    walk_at "tg"
    exact take_of hp (by decide) (by decide) fun r2 h0 h1 => hQ' r2 trivial
  intro pks hpl _
  rw [List.length_range] at hpl
  rw [List.nil_append]
  walk_at "kf1"
  refine gSeq_step ?_
  walk_at "kf1"
  refine gSeq_step ?_
  walk_at "kf1"
  walk_at "tg"
  refine ⟨p, [], rfl, by have := hpo.1; omega, hpo.2.1, fun y hy => (nomatch hy), by simp only [List.length_nil]; have := hpo.1; omega, ?_⟩
  try dsimp only
  refine ⟨bare p [], pks, rfl, hpo.2.2, by omega, fun b' log e => ?_, fun e => ?_⟩
  · try dsimp only
    refine ⟨p, pks, rfl, hpo, ?_⟩
    try dsimp only
    rw [← runD.1 b' log e, rEq_tld hpo.2.2]
    walk_at "kf1"
    rw [show (D.lst (pks.map D.int)) = dI pks from rfl, rEq_ints]
    walk_at "kf1"
    exact hN _ _ _ _
  · try dsimp only
    refine ⟨p, pks, rfl, hpo, ?_⟩
    try dsimp only
    rw [← runD.2 e, rEq_tld hpo.2.2]
    walk_at "kf1"
    rw [show (D.lst (pks.map D.int)) = dI pks from rfl, rEq_ints]
    walk_at "kf1"
    exact hN _ _ _ _
theorem ok_law (T : Tx K mg) : FO_law P w base T 215 (lawSp 63) := by
  refine fnd_law T (ok_pool T.n__law_pool T.m_len) (fnUp (ok_tower T) (by omega)) (fnUp (ok_wide T) (by omega)) (fnUp (ok_deepened T) (by omega)) (fnUp (ok_halves T) (by omega)) (ok_take T.n__law_take) (fnUp (ok_lrun T) (by omega)) (fnUp (ok_bare T 101) (by omega)) (fnUp (ok_told T) (by omega)) (by walk_at "len") ?_
  rintro ds O R RE ⟨ns, rfl, hl, hR⟩
  unfold g_law
  refine gSeq_step ?_
  walk_at "kf1"
  obtain ⟨b1, b2, b3⟩ := rngBound ns.length 3 (by decide) (by decide)
  refine ⟨b1, b2, forD_inv (fun ρ O => ∃ x1 x2 x3 x4 x5 x6 x7 x8 x9 x10, ρ = [some (.scr ns), x1, x2, x3, x4, x5, x6, x7, x8, x9, x10]) _ _ _ ⟨_, _, _, _, _, _, _, _, _, _, rfl⟩ (fun ρ O _ => hR O) ?_⟩
  rintro d hd ρ O' ⟨x1, x2, x3, x4, x5, x6, x7, x8, x9, x10, rfl⟩ Nx hN
  obtain ⟨i, hi, rfl⟩ := mem_rangeD hd
  walk_at "kf1"
  refine gSeq_step ?_
  walk_at "kf1"
  refine ⟨ns, _, rfl, by omega, by omega, fun pa hpa => ?_⟩
  refine gSeq_step ?_
  walk_at "kf1"
  walk_at "tg"
  refine gSeq_step ?_
  walk_at "kf1"
  refine take_of updO_same (by split <;> omega) (by split <;> omega) fun r hr0 hr1 => ?_
  refine rIx_any hr0 (by show r < 4; split at hr1 <;> omega) fun v hv => ?_
  obtain ⟨f, rfl, hf, hS⟩ : ∃ f, v = .ref f ∧ PySem.W.isFn K (.ref f) = true ∧ sOr (sOne T.a__law_tower spWay) (sOr (sOne T.a__law_wide spWay) (sOr (sOne T.a__law_deepened spWay) (sOne T.a__law_halves spWay))) f spWay := by
    simp only [List.mem_cons, List.not_mem_nil, or_false] at hv
    rcases hv with rfl | rfl | rfl | rfl
    · exact ⟨_, rfl, T.v__law_tower, .inl ⟨rfl, rfl⟩⟩
    · exact ⟨_, rfl, T.v__law_wide, .inr (.inl ⟨rfl, rfl⟩)⟩
    · exact ⟨_, rfl, T.v__law_deepened, .inr (.inr (.inl ⟨rfl, rfl⟩))⟩
    · exact ⟨_, rfl, T.v__law_halves, .inr (.inr (.inr ⟨rfl, rfl⟩))⟩
  try dsimp only
  refine gSeq_step ?_
  rw [ap_gSet, ap_fCallE]
  walk_at "kf1"
  refine ⟨f, spWay, rfl, hS, ?_⟩
  refine ⟨pa, rfl, updO_same, fun p hpw => ?_⟩
  try dsimp only
  refine gSeq_step ?_
  walk_at "kf1"
  refine rFnEq_r hf T.v__law_halves ?_
  walk_at "kf1"
  have fin : ∀ {R' : DEnds} (q : Pg) x9, R'.nx = Nx → Tw 100 4194304 q → gRest19 (spBare 101) spLRun spTake spTold R' [some (.scr ns), some (.int (0 + (i : Int))), some (.ref pa), some (.lst [.ref T.a__law_tower, .ref T.a__law_wide, .ref T.a__law_deepened, .ref T.a__law_halves]), some (.ref f), some (dP q), x6, x7, x8, x9, x10] (updO O' pa .pool) := fun q x9 e hq =>
    rest19 updO_same hq fun _ _ _ _ => by rw [e]; exact hN _ _ ⟨_, _, _, _, _, _, _, _, _, _, rfl⟩
  split
  · refine take_of updO_same (by decide) (by decide) fun r2 _ _ => ?_
    walk_at "kf1"
    split
    · refine gSeq_step ?_
      walk_at "kf1"
      walk_at "tg"
      refine take_of updO_same (by decide) (by decide) fun r3 h0 h1 => ?_
      refine rIx_any h0 (by simpa using h1) fun v hv => ?_
      simp only [List.mem_cons, List.not_mem_nil, or_false] at hv
      rcases hv with rfl | rfl
      · exact fin (.first (.pair (.nm "p") p)) _ rfl ((tw_first (tw_pair (tw_nm in_p) hpw)).le (by omega) (by omega))
      · exact fin (.second (.pair p (.nm "p"))) _ rfl ((tw_second (tw_pair hpw (tw_nm in_p))).le (by omega) (by omega))
    · exact fin p _ rfl (hpw.le (by omega) (by omega))
  · exact fin p _ rfl (hpw.le (by omega) (by omega))
end
theorem fn_mk {K : PySem.W.Frag} {h : Heap} {mg : Str → Option Value} {x : Str} {st : Stmt} {ps : List Str} {f : Addr} {oc : Value} {od an : Option Addr} {osl : Array (Option Value)} {kV doc pm cdv ct : Value} (X : K.In h) (G : h.Ns mainGlobals mg)
    (a : PySem.W.nsIn K mainGlobals x = some (some (.ref f))) (l : K.lookup f = some ⟨oc, od, .func (PySem.W.fnOf x x (defArgs st) (defBody st) (defScope st) .none kV doc pm an cdv ct), osl⟩) (c : PySem.W.codeIn K cdv x = true) (k : PySem.W.keepIn K (.ref f) = true)
    (b : ∀ (kV doc pm : Value) (an : Option Addr) (cdv ct : Value) (us : List Value), us.length = ps.length → bindArgs (PySem.W.fnOf x x (defArgs st) (defBody st) (defScope st) .none kV doc pm an cdv ct) ⟨us, []⟩ = pure (ps.zip us)) :
    Fn K mg x st ps f (PySem.W.fnOf x x (defArgs st) (defBody st) (defScope st) .none kV doc pm an cdv ct) := ⟨fun_mk l c k, PySem.W.mg_of X G a, (fun_mk l c k).binds b⟩
theorem fnD_mk {K : PySem.W.Frag} {h : Heap} {mg : Str → Option Value} {x : Str} {st : Stmt} {p1 p2 : Str} {f dT : Addr} {oc : Value} {od an dd : Option Addr} {osl dsl : Array (Option Value)} {kV doc pm cdv ct dc : Value} {dn : Nat} (X : K.In h) (G : h.Ns mainGlobals mg)
    (a : PySem.W.nsIn K mainGlobals x = some (some (.ref f))) (l : K.lookup f = some ⟨oc, od, .func (PySem.W.fnOf x x (defArgs st) (defBody st) (defScope st) (.ref dT) kV doc pm an cdv ct), osl⟩) (q : K.lookup dT = some ⟨dc, dd, .seq #[.none] dn, dsl⟩) (c : PySem.W.codeIn K cdv x = true) (k : PySem.W.keepIn K (.ref f) = true)
    (b : ∀ (T : Addr) (kV doc pm : Value) (an : Option Addr) (cdv ct : Value) (us its : List Value), us.length = 2 → its.length = 1 → ∃ k, bindArgs (PySem.W.fnOf x x (defArgs st) (defBody st) (defScope st) (.ref T) kV doc pm an cdv ct) ⟨us, []⟩ = seqItems? (.ref T) >>= k ∧ k (some its.toArray) = pure ([p1, p2].zip (us ++ its.drop 1)))
    (b1 : ∀ (T : Addr) (kV doc pm : Value) (an : Option Addr) (cdv ct : Value) (us its : List Value), us.length = 1 → its.length = 1 → ∃ k, bindArgs (PySem.W.fnOf x x (defArgs st) (defBody st) (defScope st) (.ref T) kV doc pm an cdv ct) ⟨us, []⟩ = seqItems? (.ref T) >>= k ∧ k (some its.toArray) = pure ([p1, p2].zip (us ++ its.drop 0))) :
    FnD K mg x st [p1, p2] f (PySem.W.fnOf x x (defArgs st) (defBody st) (defScope st) (.ref dT) kV doc pm an cdv ct) := by
  have F : FunD K x x (defArgs st) (defBody st) (defScope st) [V.non] [] f (PySem.W.fnOf x x (defArgs st) (defBody st) (defScope st) (.ref dT) kV doc pm an cdv ct) := ⟨⟨oc, od, _, kV, doc, pm, an, cdv, ct, osl, rfl, l, c, .inr ⟨by simp, dT, _, [.none], dn, rfl, q, rfl, .cons rfl .nil⟩, .inl rfl⟩, k⟩
  obtain ⟨ds, v0, hb⟩ := F.binds1 (ps := [p1, p2]) 2 1 (by simp) rfl b
  have e0 : ds = [] := List.length_eq_zero_iff.mp (by have := v0.length; simpa using this.symm)
  subst e0
  exact ⟨F, PySem.W.mg_of X G a, hb, F.binds1 (ps := [p1, p2]) 1 0 (by simp) rfl b1⟩
set_option maxHeartbeats 0 in
theorem all_mk {l : PySem.W.OpenLaw} {w : World} {K : PySem.W.Frag} {h : Heap} {mg : Str → Option Value} {fa : Addr} (X : K.In h) (G : h.Ns mainGlobals mg) (hfa : mg "law" = some (.ref fa))
    {f_inner : Addr} {oc_inner kV_inner dc_inner pm_inner cd_inner ct_inner : Value} {od_inner an_inner : Option Addr} {sl_inner : Array (Option Value)}
    (a_inner : PySem.W.nsIn K mainGlobals "inner" = some (some (.ref f_inner)))
    (l_inner : K.lookup f_inner = some ⟨oc_inner, od_inner, .func (PySem.W.fnOf "inner" "inner" (defArgs s_inner) (defBody s_inner) (defScope s_inner) .none kV_inner dc_inner pm_inner an_inner cd_inner ct_inner), sl_inner⟩)
    (c_inner : PySem.W.codeIn K cd_inner "inner" = true) (k_inner : PySem.W.keepIn K (.ref f_inner) = true)
    {f_parts_of : Addr} {oc_parts_of kV_parts_of dc_parts_of pm_parts_of cd_parts_of ct_parts_of : Value} {od_parts_of an_parts_of : Option Addr} {sl_parts_of : Array (Option Value)}
    (a_parts_of : PySem.W.nsIn K mainGlobals "parts_of" = some (some (.ref f_parts_of)))
    (l_parts_of : K.lookup f_parts_of = some ⟨oc_parts_of, od_parts_of, .func (PySem.W.fnOf "parts_of" "parts_of" (defArgs s_parts_of) (defBody s_parts_of) (defScope s_parts_of) .none kV_parts_of dc_parts_of pm_parts_of an_parts_of cd_parts_of ct_parts_of), sl_parts_of⟩)
    (c_parts_of : PySem.W.codeIn K cd_parts_of "parts_of" = true) (k_parts_of : PySem.W.keepIn K (.ref f_parts_of) = true)
    {f_deep_of : Addr} {oc_deep_of kV_deep_of dc_deep_of pm_deep_of cd_deep_of ct_deep_of : Value} {od_deep_of an_deep_of : Option Addr} {sl_deep_of : Array (Option Value)}
    (a_deep_of : PySem.W.nsIn K mainGlobals "deep_of" = some (some (.ref f_deep_of)))
    (l_deep_of : K.lookup f_deep_of = some ⟨oc_deep_of, od_deep_of, .func (PySem.W.fnOf "deep_of" "deep_of" (defArgs s_deep_of) (defBody s_deep_of) (defScope s_deep_of) .none kV_deep_of dc_deep_of pm_deep_of an_deep_of cd_deep_of ct_deep_of), sl_deep_of⟩)
    (c_deep_of : PySem.W.codeIn K cd_deep_of "deep_of" = true) (k_deep_of : PySem.W.keepIn K (.ref f_deep_of) = true)
    {f_part_at : Addr} {oc_part_at kV_part_at dc_part_at pm_part_at cd_part_at ct_part_at : Value} {od_part_at an_part_at : Option Addr} {sl_part_at : Array (Option Value)}
    (a_part_at : PySem.W.nsIn K mainGlobals "part_at" = some (some (.ref f_part_at)))
    (l_part_at : K.lookup f_part_at = some ⟨oc_part_at, od_part_at, .func (PySem.W.fnOf "part_at" "part_at" (defArgs s_part_at) (defBody s_part_at) (defScope s_part_at) .none kV_part_at dc_part_at pm_part_at an_part_at cd_part_at ct_part_at), sl_part_at⟩)
    (c_part_at : PySem.W.codeIn K cd_part_at "part_at" = true) (k_part_at : PySem.W.keepIn K (.ref f_part_at) = true)
    {f_with_inner : Addr} {oc_with_inner kV_with_inner dc_with_inner pm_with_inner cd_with_inner ct_with_inner : Value} {od_with_inner an_with_inner : Option Addr} {sl_with_inner : Array (Option Value)}
    (a_with_inner : PySem.W.nsIn K mainGlobals "with_inner" = some (some (.ref f_with_inner)))
    (l_with_inner : K.lookup f_with_inner = some ⟨oc_with_inner, od_with_inner, .func (PySem.W.fnOf "with_inner" "with_inner" (defArgs s_with_inner) (defBody s_with_inner) (defScope s_with_inner) .none kV_with_inner dc_with_inner pm_with_inner an_with_inner cd_with_inner ct_with_inner), sl_with_inner⟩)
    (c_with_inner : PySem.W.codeIn K cd_with_inner "with_inner" = true) (k_with_inner : PySem.W.keepIn K (.ref f_with_inner) = true)
    {f_with_part : Addr} {oc_with_part kV_with_part dc_with_part pm_with_part cd_with_part ct_with_part : Value} {od_with_part an_with_part : Option Addr} {sl_with_part : Array (Option Value)}
    (a_with_part : PySem.W.nsIn K mainGlobals "with_part" = some (some (.ref f_with_part)))
    (l_with_part : K.lookup f_with_part = some ⟨oc_with_part, od_with_part, .func (PySem.W.fnOf "with_part" "with_part" (defArgs s_with_part) (defBody s_with_part) (defScope s_with_part) .none kV_with_part dc_with_part pm_with_part an_with_part cd_with_part ct_with_part), sl_with_part⟩)
    (c_with_part : PySem.W.codeIn K cd_with_part "with_part" = true) (k_with_part : PySem.W.keepIn K (.ref f_with_part) = true)
    {f_tidied_within : Addr} {oc_tidied_within kV_tidied_within dc_tidied_within pm_tidied_within cd_tidied_within ct_tidied_within : Value} {od_tidied_within an_tidied_within : Option Addr} {sl_tidied_within : Array (Option Value)}
    (a_tidied_within : PySem.W.nsIn K mainGlobals "tidied_within" = some (some (.ref f_tidied_within)))
    (l_tidied_within : K.lookup f_tidied_within = some ⟨oc_tidied_within, od_tidied_within, .func (PySem.W.fnOf "tidied_within" "tidied_within" (defArgs s_tidied_within) (defBody s_tidied_within) (defScope s_tidied_within) .none kV_tidied_within dc_tidied_within pm_tidied_within an_tidied_within cd_tidied_within ct_tidied_within), sl_tidied_within⟩)
    (c_tidied_within : PySem.W.codeIn K cd_tidied_within "tidied_within" = true) (k_tidied_within : PySem.W.keepIn K (.ref f_tidied_within) = true)
    {f_tidied : Addr} {oc_tidied kV_tidied dc_tidied pm_tidied cd_tidied ct_tidied : Value} {od_tidied an_tidied : Option Addr} {sl_tidied : Array (Option Value)}
    (a_tidied : PySem.W.nsIn K mainGlobals "tidied" = some (some (.ref f_tidied)))
    (l_tidied : K.lookup f_tidied = some ⟨oc_tidied, od_tidied, .func (PySem.W.fnOf "tidied" "tidied" (defArgs s_tidied) (defBody s_tidied) (defScope s_tidied) .none kV_tidied dc_tidied pm_tidied an_tidied cd_tidied ct_tidied), sl_tidied⟩)
    (c_tidied : PySem.W.codeIn K cd_tidied "tidied" = true) (k_tidied : PySem.W.keepIn K (.ref f_tidied) = true)
    {f_can_step : Addr} {oc_can_step kV_can_step dc_can_step pm_can_step cd_can_step ct_can_step : Value} {od_can_step an_can_step : Option Addr} {sl_can_step : Array (Option Value)}
    (a_can_step : PySem.W.nsIn K mainGlobals "can_step" = some (some (.ref f_can_step)))
    (l_can_step : K.lookup f_can_step = some ⟨oc_can_step, od_can_step, .func (PySem.W.fnOf "can_step" "can_step" (defArgs s_can_step) (defBody s_can_step) (defScope s_can_step) .none kV_can_step dc_can_step pm_can_step an_can_step cd_can_step ct_can_step), sl_can_step⟩)
    (c_can_step : PySem.W.codeIn K cd_can_step "can_step" = true) (k_can_step : PySem.W.keepIn K (.ref f_can_step) = true)
    {f_put_places : Addr} {oc_put_places kV_put_places dc_put_places pm_put_places cd_put_places ct_put_places : Value} {od_put_places an_put_places : Option Addr} {sl_put_places : Array (Option Value)}
    (a_put_places : PySem.W.nsIn K mainGlobals "put_places" = some (some (.ref f_put_places)))
    (l_put_places : K.lookup f_put_places = some ⟨oc_put_places, od_put_places, .func (PySem.W.fnOf "put_places" "put_places" (defArgs s_put_places) (defBody s_put_places) (defScope s_put_places) .none kV_put_places dc_put_places pm_put_places an_put_places cd_put_places ct_put_places), sl_put_places⟩)
    (c_put_places : PySem.W.codeIn K cd_put_places "put_places" = true) (k_put_places : PySem.W.keepIn K (.ref f_put_places) = true)
    {f_step_places : Addr} {oc_step_places kV_step_places dc_step_places pm_step_places cd_step_places ct_step_places : Value} {od_step_places an_step_places : Option Addr} {sl_step_places : Array (Option Value)}
    (a_step_places : PySem.W.nsIn K mainGlobals "step_places" = some (some (.ref f_step_places)))
    (l_step_places : K.lookup f_step_places = some ⟨oc_step_places, od_step_places, .func (PySem.W.fnOf "step_places" "step_places" (defArgs s_step_places) (defBody s_step_places) (defScope s_step_places) .none kV_step_places dc_step_places pm_step_places an_step_places cd_step_places ct_step_places), sl_step_places⟩)
    (c_step_places : PySem.W.codeIn K cd_step_places "step_places" = true) (k_step_places : PySem.W.keepIn K (.ref f_step_places) = true)
    {f_name_count : Addr} {oc_name_count kV_name_count dc_name_count pm_name_count cd_name_count ct_name_count : Value} {od_name_count an_name_count : Option Addr} {sl_name_count : Array (Option Value)}
    (a_name_count : PySem.W.nsIn K mainGlobals "name_count" = some (some (.ref f_name_count)))
    (l_name_count : K.lookup f_name_count = some ⟨oc_name_count, od_name_count, .func (PySem.W.fnOf "name_count" "name_count" (defArgs s_name_count) (defBody s_name_count) (defScope s_name_count) .none kV_name_count dc_name_count pm_name_count an_name_count cd_name_count ct_name_count), sl_name_count⟩)
    (c_name_count : PySem.W.codeIn K cd_name_count "name_count" = true) (k_name_count : PySem.W.keepIn K (.ref f_name_count) = true)
    {f_with_given : Addr} {oc_with_given kV_with_given dc_with_given pm_with_given cd_with_given ct_with_given : Value} {od_with_given an_with_given : Option Addr} {sl_with_given : Array (Option Value)}
    (a_with_given : PySem.W.nsIn K mainGlobals "with_given" = some (some (.ref f_with_given)))
    (l_with_given : K.lookup f_with_given = some ⟨oc_with_given, od_with_given, .func (PySem.W.fnOf "with_given" "with_given" (defArgs s_with_given) (defBody s_with_given) (defScope s_with_given) .none kV_with_given dc_with_given pm_with_given an_with_given cd_with_given ct_with_given), sl_with_given⟩)
    (c_with_given : PySem.W.codeIn K cd_with_given "with_given" = true) (k_with_given : PySem.W.keepIn K (.ref f_with_given) = true)
    {f_what_comes : Addr} {oc_what_comes kV_what_comes dc_what_comes pm_what_comes cd_what_comes ct_what_comes : Value} {od_what_comes an_what_comes : Option Addr} {sl_what_comes : Array (Option Value)}
    (a_what_comes : PySem.W.nsIn K mainGlobals "what_comes" = some (some (.ref f_what_comes)))
    (l_what_comes : K.lookup f_what_comes = some ⟨oc_what_comes, od_what_comes, .func (PySem.W.fnOf "what_comes" "what_comes" (defArgs s_what_comes) (defBody s_what_comes) (defScope s_what_comes) .none kV_what_comes dc_what_comes pm_what_comes an_what_comes cd_what_comes ct_what_comes), sl_what_comes⟩)
    (c_what_comes : PySem.W.codeIn K cd_what_comes "what_comes" = true) (k_what_comes : PySem.W.keepIn K (.ref f_what_comes) = true)
    {f_parts_that_come : Addr} {oc_parts_that_come kV_parts_that_come dc_parts_that_come pm_parts_that_come cd_parts_that_come ct_parts_that_come : Value} {od_parts_that_come an_parts_that_come : Option Addr} {sl_parts_that_come : Array (Option Value)}
    (a_parts_that_come : PySem.W.nsIn K mainGlobals "parts_that_come" = some (some (.ref f_parts_that_come)))
    (l_parts_that_come : K.lookup f_parts_that_come = some ⟨oc_parts_that_come, od_parts_that_come, .func (PySem.W.fnOf "parts_that_come" "parts_that_come" (defArgs s_parts_that_come) (defBody s_parts_that_come) (defScope s_parts_that_come) .none kV_parts_that_come dc_parts_that_come pm_parts_that_come an_parts_that_come cd_parts_that_come ct_parts_that_come), sl_parts_that_come⟩)
    (c_parts_that_come : PySem.W.codeIn K cd_parts_that_come "parts_that_come" = true) (k_parts_that_come : PySem.W.keepIn K (.ref f_parts_that_come) = true)
    {f_done_at : Addr} {oc_done_at kV_done_at dc_done_at pm_done_at cd_done_at ct_done_at : Value} {od_done_at an_done_at : Option Addr} {sl_done_at : Array (Option Value)}
    (a_done_at : PySem.W.nsIn K mainGlobals "done_at" = some (some (.ref f_done_at)))
    (l_done_at : K.lookup f_done_at = some ⟨oc_done_at, od_done_at, .func (PySem.W.fnOf "done_at" "done_at" (defArgs s_done_at) (defBody s_done_at) (defScope s_done_at) .none kV_done_at dc_done_at pm_done_at an_done_at cd_done_at ct_done_at), sl_done_at⟩)
    (c_done_at : PySem.W.codeIn K cd_done_at "done_at" = true) (k_done_at : PySem.W.keepIn K (.ref f_done_at) = true)
    {f_next_place : Addr} {oc_next_place kV_next_place dc_next_place pm_next_place cd_next_place ct_next_place : Value} {od_next_place an_next_place : Option Addr} {sl_next_place : Array (Option Value)}
    (a_next_place : PySem.W.nsIn K mainGlobals "next_place" = some (some (.ref f_next_place)))
    (l_next_place : K.lookup f_next_place = some ⟨oc_next_place, od_next_place, .func (PySem.W.fnOf "next_place" "next_place" (defArgs s_next_place) (defBody s_next_place) (defScope s_next_place) .none kV_next_place dc_next_place pm_next_place an_next_place cd_next_place ct_next_place), sl_next_place⟩)
    (c_next_place : PySem.W.codeIn K cd_next_place "next_place" = true) (k_next_place : PySem.W.keepIn K (.ref f_next_place) = true)
    {f_run : Addr} {oc_run kV_run dc_run pm_run cd_run ct_run : Value} {od_run an_run : Option Addr} {sl_run : Array (Option Value)}
    (a_run : PySem.W.nsIn K mainGlobals "run" = some (some (.ref f_run)))
    {dT_run : Addr} {dcl_run : Value} {ddd_run : Option Addr} {ddn_run : Nat} {dsl_run : Array (Option Value)}
    (l_run : K.lookup f_run = some ⟨oc_run, od_run, .func (PySem.W.fnOf "run" "run" (defArgs s_run) (defBody s_run) (defScope s_run) (.ref dT_run) kV_run dc_run pm_run an_run cd_run ct_run), sl_run⟩)
    (q_run : K.lookup dT_run = some ⟨dcl_run, ddd_run, .seq #[.none] ddn_run, dsl_run⟩)
    (c_run : PySem.W.codeIn K cd_run "run" = true) (k_run : PySem.W.keepIn K (.ref f_run) = true)
    {f__law_pool : Addr} {oc__law_pool kV__law_pool dc__law_pool pm__law_pool cd__law_pool ct__law_pool : Value} {od__law_pool an__law_pool : Option Addr} {sl__law_pool : Array (Option Value)}
    (a__law_pool : PySem.W.nsIn K mainGlobals "_law_pool" = some (some (.ref f__law_pool)))
    (l__law_pool : K.lookup f__law_pool = some ⟨oc__law_pool, od__law_pool, .func (PySem.W.fnOf "_law_pool" "_law_pool" (defArgs s__law_pool) (defBody s__law_pool) (defScope s__law_pool) .none kV__law_pool dc__law_pool pm__law_pool an__law_pool cd__law_pool ct__law_pool), sl__law_pool⟩)
    (c__law_pool : PySem.W.codeIn K cd__law_pool "_law_pool" = true) (k__law_pool : PySem.W.keepIn K (.ref f__law_pool) = true)
    {f__law_take : Addr} {oc__law_take kV__law_take dc__law_take pm__law_take cd__law_take ct__law_take : Value} {od__law_take an__law_take : Option Addr} {sl__law_take : Array (Option Value)}
    (a__law_take : PySem.W.nsIn K mainGlobals "_law_take" = some (some (.ref f__law_take)))
    (l__law_take : K.lookup f__law_take = some ⟨oc__law_take, od__law_take, .func (PySem.W.fnOf "_law_take" "_law_take" (defArgs s__law_take) (defBody s__law_take) (defScope s__law_take) .none kV__law_take dc__law_take pm__law_take an__law_take cd__law_take ct__law_take), sl__law_take⟩)
    (c__law_take : PySem.W.codeIn K cd__law_take "_law_take" = true) (k__law_take : PySem.W.keepIn K (.ref f__law_take) = true)
    {f__law_inner : Addr} {oc__law_inner kV__law_inner dc__law_inner pm__law_inner cd__law_inner ct__law_inner : Value} {od__law_inner an__law_inner : Option Addr} {sl__law_inner : Array (Option Value)}
    (a__law_inner : PySem.W.nsIn K mainGlobals "_law_inner" = some (some (.ref f__law_inner)))
    (l__law_inner : K.lookup f__law_inner = some ⟨oc__law_inner, od__law_inner, .func (PySem.W.fnOf "_law_inner" "_law_inner" (defArgs s__law_inner) (defBody s__law_inner) (defScope s__law_inner) .none kV__law_inner dc__law_inner pm__law_inner an__law_inner cd__law_inner ct__law_inner), sl__law_inner⟩)
    (c__law_inner : PySem.W.codeIn K cd__law_inner "_law_inner" = true) (k__law_inner : PySem.W.keepIn K (.ref f__law_inner) = true)
    {f__law_can : Addr} {oc__law_can kV__law_can dc__law_can pm__law_can cd__law_can ct__law_can : Value} {od__law_can an__law_can : Option Addr} {sl__law_can : Array (Option Value)}
    (a__law_can : PySem.W.nsIn K mainGlobals "_law_can" = some (some (.ref f__law_can)))
    (l__law_can : K.lookup f__law_can = some ⟨oc__law_can, od__law_can, .func (PySem.W.fnOf "_law_can" "_law_can" (defArgs s__law_can) (defBody s__law_can) (defScope s__law_can) .none kV__law_can dc__law_can pm__law_can an__law_can cd__law_can ct__law_can), sl__law_can⟩)
    (c__law_can : PySem.W.codeIn K cd__law_can "_law_can" = true) (k__law_can : PySem.W.keepIn K (.ref f__law_can) = true)
    {f__law_places : Addr} {oc__law_places kV__law_places dc__law_places pm__law_places cd__law_places ct__law_places : Value} {od__law_places an__law_places : Option Addr} {sl__law_places : Array (Option Value)}
    (a__law_places : PySem.W.nsIn K mainGlobals "_law_places" = some (some (.ref f__law_places)))
    (l__law_places : K.lookup f__law_places = some ⟨oc__law_places, od__law_places, .func (PySem.W.fnOf "_law_places" "_law_places" (defArgs s__law_places) (defBody s__law_places) (defScope s__law_places) .none kV__law_places dc__law_places pm__law_places an__law_places cd__law_places ct__law_places), sl__law_places⟩)
    (c__law_places : PySem.W.codeIn K cd__law_places "_law_places" = true) (k__law_places : PySem.W.keepIn K (.ref f__law_places) = true)
    {f__law_bare : Addr} {oc__law_bare kV__law_bare dc__law_bare pm__law_bare cd__law_bare ct__law_bare : Value} {od__law_bare an__law_bare : Option Addr} {sl__law_bare : Array (Option Value)}
    (a__law_bare : PySem.W.nsIn K mainGlobals "_law_bare" = some (some (.ref f__law_bare)))
    (l__law_bare : K.lookup f__law_bare = some ⟨oc__law_bare, od__law_bare, .func (PySem.W.fnOf "_law_bare" "_law_bare" (defArgs s__law_bare) (defBody s__law_bare) (defScope s__law_bare) .none kV__law_bare dc__law_bare pm__law_bare an__law_bare cd__law_bare ct__law_bare), sl__law_bare⟩)
    (c__law_bare : PySem.W.codeIn K cd__law_bare "_law_bare" = true) (k__law_bare : PySem.W.keepIn K (.ref f__law_bare) = true)
    {f__law_dressed : Addr} {oc__law_dressed kV__law_dressed dc__law_dressed pm__law_dressed cd__law_dressed ct__law_dressed : Value} {od__law_dressed an__law_dressed : Option Addr} {sl__law_dressed : Array (Option Value)}
    (a__law_dressed : PySem.W.nsIn K mainGlobals "_law_dressed" = some (some (.ref f__law_dressed)))
    (l__law_dressed : K.lookup f__law_dressed = some ⟨oc__law_dressed, od__law_dressed, .func (PySem.W.fnOf "_law_dressed" "_law_dressed" (defArgs s__law_dressed) (defBody s__law_dressed) (defScope s__law_dressed) .none kV__law_dressed dc__law_dressed pm__law_dressed an__law_dressed cd__law_dressed ct__law_dressed), sl__law_dressed⟩)
    (c__law_dressed : PySem.W.codeIn K cd__law_dressed "_law_dressed" = true) (k__law_dressed : PySem.W.keepIn K (.ref f__law_dressed) = true)
    {f__law_moved : Addr} {oc__law_moved kV__law_moved dc__law_moved pm__law_moved cd__law_moved ct__law_moved : Value} {od__law_moved an__law_moved : Option Addr} {sl__law_moved : Array (Option Value)}
    (a__law_moved : PySem.W.nsIn K mainGlobals "_law_moved" = some (some (.ref f__law_moved)))
    (l__law_moved : K.lookup f__law_moved = some ⟨oc__law_moved, od__law_moved, .func (PySem.W.fnOf "_law_moved" "_law_moved" (defArgs s__law_moved) (defBody s__law_moved) (defScope s__law_moved) .none kV__law_moved dc__law_moved pm__law_moved an__law_moved cd__law_moved ct__law_moved), sl__law_moved⟩)
    (c__law_moved : PySem.W.codeIn K cd__law_moved "_law_moved" = true) (k__law_moved : PySem.W.keepIn K (.ref f__law_moved) = true)
    {f__law_put : Addr} {oc__law_put kV__law_put dc__law_put pm__law_put cd__law_put ct__law_put : Value} {od__law_put an__law_put : Option Addr} {sl__law_put : Array (Option Value)}
    (a__law_put : PySem.W.nsIn K mainGlobals "_law_put" = some (some (.ref f__law_put)))
    (l__law_put : K.lookup f__law_put = some ⟨oc__law_put, od__law_put, .func (PySem.W.fnOf "_law_put" "_law_put" (defArgs s__law_put) (defBody s__law_put) (defScope s__law_put) .none kV__law_put dc__law_put pm__law_put an__law_put cd__law_put ct__law_put), sl__law_put⟩)
    (c__law_put : PySem.W.codeIn K cd__law_put "_law_put" = true) (k__law_put : PySem.W.keepIn K (.ref f__law_put) = true)
    {f__law_step : Addr} {oc__law_step kV__law_step dc__law_step pm__law_step cd__law_step ct__law_step : Value} {od__law_step an__law_step : Option Addr} {sl__law_step : Array (Option Value)}
    (a__law_step : PySem.W.nsIn K mainGlobals "_law_step" = some (some (.ref f__law_step)))
    (l__law_step : K.lookup f__law_step = some ⟨oc__law_step, od__law_step, .func (PySem.W.fnOf "_law_step" "_law_step" (defArgs s__law_step) (defBody s__law_step) (defScope s__law_step) .none kV__law_step dc__law_step pm__law_step an__law_step cd__law_step ct__law_step), sl__law_step⟩)
    (c__law_step : PySem.W.codeIn K cd__law_step "_law_step" = true) (k__law_step : PySem.W.keepIn K (.ref f__law_step) = true)
    {f__law_parts : Addr} {oc__law_parts kV__law_parts dc__law_parts pm__law_parts cd__law_parts ct__law_parts : Value} {od__law_parts an__law_parts : Option Addr} {sl__law_parts : Array (Option Value)}
    (a__law_parts : PySem.W.nsIn K mainGlobals "_law_parts" = some (some (.ref f__law_parts)))
    (l__law_parts : K.lookup f__law_parts = some ⟨oc__law_parts, od__law_parts, .func (PySem.W.fnOf "_law_parts" "_law_parts" (defArgs s__law_parts) (defBody s__law_parts) (defScope s__law_parts) .none kV__law_parts dc__law_parts pm__law_parts an__law_parts cd__law_parts ct__law_parts), sl__law_parts⟩)
    (c__law_parts : PySem.W.codeIn K cd__law_parts "_law_parts" = true) (k__law_parts : PySem.W.keepIn K (.ref f__law_parts) = true)
    {f__law_high : Addr} {oc__law_high kV__law_high dc__law_high pm__law_high cd__law_high ct__law_high : Value} {od__law_high an__law_high : Option Addr} {sl__law_high : Array (Option Value)}
    (a__law_high : PySem.W.nsIn K mainGlobals "_law_high" = some (some (.ref f__law_high)))
    (l__law_high : K.lookup f__law_high = some ⟨oc__law_high, od__law_high, .func (PySem.W.fnOf "_law_high" "_law_high" (defArgs s__law_high) (defBody s__law_high) (defScope s__law_high) .none kV__law_high dc__law_high pm__law_high an__law_high cd__law_high ct__law_high), sl__law_high⟩)
    (c__law_high : PySem.W.codeIn K cd__law_high "_law_high" = true) (k__law_high : PySem.W.keepIn K (.ref f__law_high) = true)
    {f__law_run : Addr} {oc__law_run kV__law_run dc__law_run pm__law_run cd__law_run ct__law_run : Value} {od__law_run an__law_run : Option Addr} {sl__law_run : Array (Option Value)}
    (a__law_run : PySem.W.nsIn K mainGlobals "_law_run" = some (some (.ref f__law_run)))
    (l__law_run : K.lookup f__law_run = some ⟨oc__law_run, od__law_run, .func (PySem.W.fnOf "_law_run" "_law_run" (defArgs s__law_run) (defBody s__law_run) (defScope s__law_run) .none kV__law_run dc__law_run pm__law_run an__law_run cd__law_run ct__law_run), sl__law_run⟩)
    (c__law_run : PySem.W.codeIn K cd__law_run "_law_run" = true) (k__law_run : PySem.W.keepIn K (.ref f__law_run) = true)
    {f__law_level : Addr} {oc__law_level kV__law_level dc__law_level pm__law_level cd__law_level ct__law_level : Value} {od__law_level an__law_level : Option Addr} {sl__law_level : Array (Option Value)}
    (a__law_level : PySem.W.nsIn K mainGlobals "_law_level" = some (some (.ref f__law_level)))
    (l__law_level : K.lookup f__law_level = some ⟨oc__law_level, od__law_level, .func (PySem.W.fnOf "_law_level" "_law_level" (defArgs s__law_level) (defBody s__law_level) (defScope s__law_level) .none kV__law_level dc__law_level pm__law_level an__law_level cd__law_level ct__law_level), sl__law_level⟩)
    (c__law_level : PySem.W.codeIn K cd__law_level "_law_level" = true) (k__law_level : PySem.W.keepIn K (.ref f__law_level) = true)
    {f__law_often : Addr} {oc__law_often kV__law_often dc__law_often pm__law_often cd__law_often ct__law_often : Value} {od__law_often an__law_often : Option Addr} {sl__law_often : Array (Option Value)}
    (a__law_often : PySem.W.nsIn K mainGlobals "_law_often" = some (some (.ref f__law_often)))
    (l__law_often : K.lookup f__law_often = some ⟨oc__law_often, od__law_often, .func (PySem.W.fnOf "_law_often" "_law_often" (defArgs s__law_often) (defBody s__law_often) (defScope s__law_often) .none kV__law_often dc__law_often pm__law_often an__law_often cd__law_often ct__law_often), sl__law_often⟩)
    (c__law_often : PySem.W.codeIn K cd__law_often "_law_often" = true) (k__law_often : PySem.W.keepIn K (.ref f__law_often) = true)
    {f__law_tower : Addr} {oc__law_tower kV__law_tower dc__law_tower pm__law_tower cd__law_tower ct__law_tower : Value} {od__law_tower an__law_tower : Option Addr} {sl__law_tower : Array (Option Value)}
    (a__law_tower : PySem.W.nsIn K mainGlobals "_law_tower" = some (some (.ref f__law_tower)))
    (l__law_tower : K.lookup f__law_tower = some ⟨oc__law_tower, od__law_tower, .func (PySem.W.fnOf "_law_tower" "_law_tower" (defArgs s__law_tower) (defBody s__law_tower) (defScope s__law_tower) .none kV__law_tower dc__law_tower pm__law_tower an__law_tower cd__law_tower ct__law_tower), sl__law_tower⟩)
    (c__law_tower : PySem.W.codeIn K cd__law_tower "_law_tower" = true) (k__law_tower : PySem.W.keepIn K (.ref f__law_tower) = true)
    {f__law_doubled : Addr} {oc__law_doubled kV__law_doubled dc__law_doubled pm__law_doubled cd__law_doubled ct__law_doubled : Value} {od__law_doubled an__law_doubled : Option Addr} {sl__law_doubled : Array (Option Value)}
    (a__law_doubled : PySem.W.nsIn K mainGlobals "_law_doubled" = some (some (.ref f__law_doubled)))
    (l__law_doubled : K.lookup f__law_doubled = some ⟨oc__law_doubled, od__law_doubled, .func (PySem.W.fnOf "_law_doubled" "_law_doubled" (defArgs s__law_doubled) (defBody s__law_doubled) (defScope s__law_doubled) .none kV__law_doubled dc__law_doubled pm__law_doubled an__law_doubled cd__law_doubled ct__law_doubled), sl__law_doubled⟩)
    (c__law_doubled : PySem.W.codeIn K cd__law_doubled "_law_doubled" = true) (k__law_doubled : PySem.W.keepIn K (.ref f__law_doubled) = true)
    {f__law_halves : Addr} {oc__law_halves kV__law_halves dc__law_halves pm__law_halves cd__law_halves ct__law_halves : Value} {od__law_halves an__law_halves : Option Addr} {sl__law_halves : Array (Option Value)}
    (a__law_halves : PySem.W.nsIn K mainGlobals "_law_halves" = some (some (.ref f__law_halves)))
    (l__law_halves : K.lookup f__law_halves = some ⟨oc__law_halves, od__law_halves, .func (PySem.W.fnOf "_law_halves" "_law_halves" (defArgs s__law_halves) (defBody s__law_halves) (defScope s__law_halves) .none kV__law_halves dc__law_halves pm__law_halves an__law_halves cd__law_halves ct__law_halves), sl__law_halves⟩)
    (c__law_halves : PySem.W.codeIn K cd__law_halves "_law_halves" = true) (k__law_halves : PySem.W.keepIn K (.ref f__law_halves) = true)
    {f__law_row : Addr} {oc__law_row kV__law_row dc__law_row pm__law_row cd__law_row ct__law_row : Value} {od__law_row an__law_row : Option Addr} {sl__law_row : Array (Option Value)}
    (a__law_row : PySem.W.nsIn K mainGlobals "_law_row" = some (some (.ref f__law_row)))
    (l__law_row : K.lookup f__law_row = some ⟨oc__law_row, od__law_row, .func (PySem.W.fnOf "_law_row" "_law_row" (defArgs s__law_row) (defBody s__law_row) (defScope s__law_row) .none kV__law_row dc__law_row pm__law_row an__law_row cd__law_row ct__law_row), sl__law_row⟩)
    (c__law_row : PySem.W.codeIn K cd__law_row "_law_row" = true) (k__law_row : PySem.W.keepIn K (.ref f__law_row) = true)
    {f__law_wide : Addr} {oc__law_wide kV__law_wide dc__law_wide pm__law_wide cd__law_wide ct__law_wide : Value} {od__law_wide an__law_wide : Option Addr} {sl__law_wide : Array (Option Value)}
    (a__law_wide : PySem.W.nsIn K mainGlobals "_law_wide" = some (some (.ref f__law_wide)))
    (l__law_wide : K.lookup f__law_wide = some ⟨oc__law_wide, od__law_wide, .func (PySem.W.fnOf "_law_wide" "_law_wide" (defArgs s__law_wide) (defBody s__law_wide) (defScope s__law_wide) .none kV__law_wide dc__law_wide pm__law_wide an__law_wide cd__law_wide ct__law_wide), sl__law_wide⟩)
    (c__law_wide : PySem.W.codeIn K cd__law_wide "_law_wide" = true) (k__law_wide : PySem.W.keepIn K (.ref f__law_wide) = true)
    {f__law_deepened : Addr} {oc__law_deepened kV__law_deepened dc__law_deepened pm__law_deepened cd__law_deepened ct__law_deepened : Value} {od__law_deepened an__law_deepened : Option Addr} {sl__law_deepened : Array (Option Value)}
    (a__law_deepened : PySem.W.nsIn K mainGlobals "_law_deepened" = some (some (.ref f__law_deepened)))
    (l__law_deepened : K.lookup f__law_deepened = some ⟨oc__law_deepened, od__law_deepened, .func (PySem.W.fnOf "_law_deepened" "_law_deepened" (defArgs s__law_deepened) (defBody s__law_deepened) (defScope s__law_deepened) .none kV__law_deepened dc__law_deepened pm__law_deepened an__law_deepened cd__law_deepened ct__law_deepened), sl__law_deepened⟩)
    (c__law_deepened : PySem.W.codeIn K cd__law_deepened "_law_deepened" = true) (k__law_deepened : PySem.W.keepIn K (.ref f__law_deepened) = true)
    {f__law_odd : Addr} {oc__law_odd kV__law_odd dc__law_odd pm__law_odd cd__law_odd ct__law_odd : Value} {od__law_odd an__law_odd : Option Addr} {sl__law_odd : Array (Option Value)}
    (a__law_odd : PySem.W.nsIn K mainGlobals "_law_odd" = some (some (.ref f__law_odd)))
    (l__law_odd : K.lookup f__law_odd = some ⟨oc__law_odd, od__law_odd, .func (PySem.W.fnOf "_law_odd" "_law_odd" (defArgs s__law_odd) (defBody s__law_odd) (defScope s__law_odd) .none kV__law_odd dc__law_odd pm__law_odd an__law_odd cd__law_odd ct__law_odd), sl__law_odd⟩)
    (c__law_odd : PySem.W.codeIn K cd__law_odd "_law_odd" = true) (k__law_odd : PySem.W.keepIn K (.ref f__law_odd) = true)
    {f__law_told : Addr} {oc__law_told kV__law_told dc__law_told pm__law_told cd__law_told ct__law_told : Value} {od__law_told an__law_told : Option Addr} {sl__law_told : Array (Option Value)}
    (a__law_told : PySem.W.nsIn K mainGlobals "_law_told" = some (some (.ref f__law_told)))
    (l__law_told : K.lookup f__law_told = some ⟨oc__law_told, od__law_told, .func (PySem.W.fnOf "_law_told" "_law_told" (defArgs s__law_told) (defBody s__law_told) (defScope s__law_told) .none kV__law_told dc__law_told pm__law_told an__law_told cd__law_told ct__law_told), sl__law_told⟩)
    (c__law_told : PySem.W.codeIn K cd__law_told "_law_told" = true) (k__law_told : PySem.W.keepIn K (.ref f__law_told) = true)
    {f_law : Addr} {oc_law kV_law dc_law pm_law cd_law ct_law : Value} {od_law an_law : Option Addr} {sl_law : Array (Option Value)}
    (a_law : PySem.W.nsIn K mainGlobals "law" = some (some (.ref f_law)))
    (l_law : K.lookup f_law = some ⟨oc_law, od_law, .func (PySem.W.fnOf "law" "law" (defArgs s_law) (defBody s_law) (defScope s_law) .none kV_law dc_law pm_law an_law cd_law ct_law), sl_law⟩)
    (c_law : PySem.W.codeIn K cd_law "law" = true) (k_law : PySem.W.keepIn K (.ref f_law) = true)
    (v__law_tower : PySem.W.isFn K (.ref f__law_tower) = true)
    (v__law_wide : PySem.W.isFn K (.ref f__law_wide) = true)
    (v__law_deepened : PySem.W.isFn K (.ref f__law_deepened) = true)
    (v__law_halves : PySem.W.isFn K (.ref f__law_halves) = true)
    (z_list : PySem.W.nsIn K mainGlobals "list" = some none)
    (z_sum : PySem.W.nsIn K mainGlobals "sum" = some none)
    (z_max : PySem.W.nsIn K mainGlobals "max" = some none)
    (z_len : PySem.W.nsIn K mainGlobals "len" = some none)
    (z_tuple : PySem.W.nsIn K mainGlobals "tuple" = some none)
    (z_reversed : PySem.W.nsIn K mainGlobals "reversed" = some none)
    (z_range : PySem.W.nsIn K mainGlobals "range" = some none)
    (z_str : PySem.W.nsIn K mainGlobals "str" = some none)
    (z_enumerate : PySem.W.nsIn K mainGlobals "enumerate" = some none)
    (z_int : PySem.W.nsIn K mainGlobals "int" = some none)
    (z_isinstance : PySem.W.nsIn K mainGlobals "isinstance" = some none)
    (z_ValueError : PySem.W.nsIn K mainGlobals "ValueError" = some none)
    (z_min : PySem.W.nsIn K mainGlobals "min" = some none)
    {t_MOST_STEPS : Tok} (e_MOST_STEPS : PySem.W.nsIn K mainGlobals "MOST_STEPS" = some (some (.int 200 t_MOST_STEPS)))
    {t_MOST_PARTS : Tok} (e_MOST_PARTS : PySem.W.nsIn K mainGlobals "MOST_PARTS" = some (some (.int 1500 t_MOST_PARTS)))
    {t_MOST_DEEP : Tok} (e_MOST_DEEP : PySem.W.nsIn K mainGlobals "MOST_DEEP" = some (some (.int 100 t_MOST_DEEP)))
    {C_NoFit : Addr} (ka_NoFit : PySem.W.nsIn K mainGlobals "NoFit" = some (some (.ref C_NoFit))) (kb_NoFit : PySem.W.subIn K (.ref C_NoFit) (.type "BaseException") = some true) (kt_NoFit : PySem.W.typeIn K (.ref C_NoFit) = some (.type "type"))
    {C_NoKind : Addr} (ka_NoKind : PySem.W.nsIn K mainGlobals "NoKind" = some (some (.ref C_NoKind))) (kb_NoKind : PySem.W.subIn K (.ref C_NoKind) (.type "BaseException") = some true) (kt_NoKind : PySem.W.typeIn K (.ref C_NoKind) = some (.type "type"))
    {C_NoLong : Addr} (ka_NoLong : PySem.W.nsIn K mainGlobals "NoLong" = some (some (.ref C_NoLong))) (kb_NoLong : PySem.W.subIn K (.ref C_NoLong) (.type "BaseException") = some true) (kt_NoLong : PySem.W.typeIn K (.ref C_NoLong) = some (.type "type"))
    {C_NoMaking : Addr} (ka_NoMaking : PySem.W.nsIn K mainGlobals "NoMaking" = some (some (.ref C_NoMaking))) (kb_NoMaking : PySem.W.subIn K (.ref C_NoMaking) (.type "BaseException") = some true) (kt_NoMaking : PySem.W.typeIn K (.ref C_NoMaking) = some (.type "type"))
    {C_NoNumber : Addr} (ka_NoNumber : PySem.W.nsIn K mainGlobals "NoNumber" = some (some (.ref C_NoNumber))) (kb_NoNumber : PySem.W.subIn K (.ref C_NoNumber) (.type "BaseException") = some true) (kt_NoNumber : PySem.W.typeIn K (.ref C_NoNumber) = some (.type "type"))
    {C_NoStep : Addr} (ka_NoStep : PySem.W.nsIn K mainGlobals "NoStep" = some (some (.ref C_NoStep))) (kb_NoStep : PySem.W.subIn K (.ref C_NoStep) (.type "BaseException") = some true) (kt_NoStep : PySem.W.typeIn K (.ref C_NoStep) = some (.type "type"))
    {C_NoText : Addr} (ka_NoText : PySem.W.nsIn K mainGlobals "NoText" = some (some (.ref C_NoText))) (kb_NoText : PySem.W.subIn K (.ref C_NoText) (.type "BaseException") = some true) (kt_NoText : PySem.W.typeIn K (.ref C_NoText) = some (.type "type"))
    {C_TooMany : Addr} (ka_TooMany : PySem.W.nsIn K mainGlobals "TooMany" = some (some (.ref C_TooMany))) (kb_TooMany : PySem.W.subIn K (.ref C_TooMany) (.type "BaseException") = some true) (kt_TooMany : PySem.W.typeIn K (.ref C_TooMany) = some (.type "type"))
    {C_TooLong : Addr} (ka_TooLong : PySem.W.nsIn K mainGlobals "TooLong" = some (some (.ref C_TooLong))) (kb_TooLong : PySem.W.subIn K (.ref C_TooLong) (.type "BaseException") = some true) (kt_TooLong : PySem.W.typeIn K (.ref C_TooLong) = some (.type "type"))
    {C_KindError : Addr} (ka_KindError : PySem.W.nsIn K mainGlobals "KindError" = some (some (.ref C_KindError))) (kb_KindError : PySem.W.subIn K (.ref C_KindError) (.type "BaseException") = some true) (kt_KindError : PySem.W.typeIn K (.ref C_KindError) = some (.type "type"))
    (kd_NoFit : PySem.W.hasDictIn K C_NoFit = true) (kf_NoFit : PySem.W.subIn K (.ref C_NoFit) (.ref C_NoFit) = some true)
    (kd_NoKind : PySem.W.hasDictIn K C_NoKind = true) (kf_NoKind : PySem.W.subIn K (.ref C_NoKind) (.ref C_NoKind) = some true)
    (kd_NoLong : PySem.W.hasDictIn K C_NoLong = true) (kf_NoLong : PySem.W.subIn K (.ref C_NoLong) (.ref C_NoLong) = some true)
    (kd_NoMaking : PySem.W.hasDictIn K C_NoMaking = true) (kf_NoMaking : PySem.W.subIn K (.ref C_NoMaking) (.ref C_NoMaking) = some true)
    (kd_NoNumber : PySem.W.hasDictIn K C_NoNumber = true) (kf_NoNumber : PySem.W.subIn K (.ref C_NoNumber) (.ref C_NoNumber) = some true)
    (kd_NoStep : PySem.W.hasDictIn K C_NoStep = true) (kf_NoStep : PySem.W.subIn K (.ref C_NoStep) (.ref C_NoStep) = some true)
    (kd_NoText : PySem.W.hasDictIn K C_NoText = true) (kf_NoText : PySem.W.subIn K (.ref C_NoText) (.ref C_NoText) = some true)
    (kd_TooMany : PySem.W.hasDictIn K C_TooMany = true) (kf_TooMany : PySem.W.subIn K (.ref C_TooMany) (.ref C_TooMany) = some true)
    (kd_TooLong : PySem.W.hasDictIn K C_TooLong = true) (kf_TooLong : PySem.W.subIn K (.ref C_TooLong) (.ref C_TooLong) = some true)
    (kd_KindError : PySem.W.hasDictIn K C_KindError = true) (kf_KindError : PySem.W.subIn K (.ref C_KindError) (.ref C_KindError) = some true)
    (kk_TooLong : PySem.W.keepIn K (.ref C_TooLong) = true) (kx_TooLong : PySem.W.excIn K C_TooLong [.type "ValueError", .type "Exception", .type "BaseException", .type "object"] "ValueError.__new__" = true)
    (ega_TooLong : PySem.W.findIn K (.ref C_TooLong) "__getattribute__" = some (some (.builtin "BaseException.__getattribute__")))
    (egt_TooLong : PySem.W.findIn K (.ref C_TooLong) "__getattr__" = some none)
    (edc_TooLong : PySem.W.hasDictIn K C_TooLong = true)
    (ecc_TooLong : PySem.W.findIn K (.ref C_TooLong) "__class__" = some (some (.builtin "object.__class__")))
    (emo_TooLong : PySem.W.mroIn K C_TooLong (.type "object") = some true)
    (spc : PySem.W.specialIn K (.builtin "object.__class__") "__get__" = some (some (.builtin "getset_descriptor.__get__"))) (tkc : PySem.W.takesIn K (.builtin "object.__class__") = some true)
    (sb_TooLong_KindError : PySem.W.subIn K (.ref C_TooLong) (.ref C_KindError) = some true)
    (sb_TooLong_ValueError : PySem.W.subIn K (.ref C_TooLong) (.type "ValueError") = some true)
    (sb_TooLong_NoFit : PySem.W.subIn K (.ref C_TooLong) (.ref C_NoFit) = some false)
    (sb_TooLong_NoKind : PySem.W.subIn K (.ref C_TooLong) (.ref C_NoKind) = some false)
    (sb_TooLong_NoLong : PySem.W.subIn K (.ref C_TooLong) (.ref C_NoLong) = some false)
    (sb_TooLong_NoMaking : PySem.W.subIn K (.ref C_TooLong) (.ref C_NoMaking) = some false)
    (sb_TooLong_NoNumber : PySem.W.subIn K (.ref C_TooLong) (.ref C_NoNumber) = some false)
    (sb_TooLong_NoStep : PySem.W.subIn K (.ref C_TooLong) (.ref C_NoStep) = some false)
    (sb_TooLong_NoText : PySem.W.subIn K (.ref C_TooLong) (.ref C_NoText) = some false)
    (sb_TooLong_TooMany : PySem.W.subIn K (.ref C_TooLong) (.ref C_TooMany) = some false) :
    ∃ fd : FuncData, (∀ (s : Shared) (v : Value), BindsTo s fd ⟨[v], []⟩ [("_law_script", v)]) ∧ ∀ base : Heap, K.In base → base.Ns mainGlobals mg → FnOk l.prog w K mg base CX0 215 fa fd ["_law_script"] (liftSp K (lawSp 63)) := by
  have e := hfa.symm.trans (PySem.W.mg_of X G a_law)
  cases e
  have N_inner' := fn_mk (ps := P_inner) X G a_inner l_inner c_inner k_inner fun _ _ _ _ _ _ us hl => match us, hl with | [_], _ => rfl
  have N_parts_of' := fn_mk (ps := P_parts_of) X G a_parts_of l_parts_of c_parts_of k_parts_of fun _ _ _ _ _ _ us hl => match us, hl with | [_], _ => rfl
  have N_deep_of' := fn_mk (ps := P_deep_of) X G a_deep_of l_deep_of c_deep_of k_deep_of fun _ _ _ _ _ _ us hl => match us, hl with | [_], _ => rfl
  have N_part_at' := fn_mk (ps := P_part_at) X G a_part_at l_part_at c_part_at k_part_at fun _ _ _ _ _ _ us hl => match us, hl with | [_, _], _ => rfl
  have N_with_inner' := fn_mk (ps := P_with_inner) X G a_with_inner l_with_inner c_with_inner k_with_inner fun _ _ _ _ _ _ us hl => match us, hl with | [_, _], _ => rfl
  have N_with_part' := fn_mk (ps := P_with_part) X G a_with_part l_with_part c_with_part k_with_part fun _ _ _ _ _ _ us hl => match us, hl with | [_, _, _], _ => rfl
  have N_tidied_within' := fn_mk (ps := P_tidied_within) X G a_tidied_within l_tidied_within c_tidied_within k_tidied_within fun _ _ _ _ _ _ us hl => match us, hl with | [_, _], _ => rfl
  have N_tidied' := fn_mk (ps := P_tidied) X G a_tidied l_tidied c_tidied k_tidied fun _ _ _ _ _ _ us hl => match us, hl with | [_], _ => rfl
  have N_can_step' := fn_mk (ps := P_can_step) X G a_can_step l_can_step c_can_step k_can_step fun _ _ _ _ _ _ us hl => match us, hl with | [_], _ => rfl
  have N_put_places' := fn_mk (ps := P_put_places) X G a_put_places l_put_places c_put_places k_put_places fun _ _ _ _ _ _ us hl => match us, hl with | [_, _, _], _ => rfl
  have N_step_places' := fn_mk (ps := P_step_places) X G a_step_places l_step_places c_step_places k_step_places fun _ _ _ _ _ _ us hl => match us, hl with | [_], _ => rfl
  have N_name_count' := fn_mk (ps := P_name_count) X G a_name_count l_name_count c_name_count k_name_count fun _ _ _ _ _ _ us hl => match us, hl with | [_, _], _ => rfl
  have N_with_given' := fn_mk (ps := P_with_given) X G a_with_given l_with_given c_with_given k_with_given fun _ _ _ _ _ _ us hl => match us, hl with | [_, _, _], _ => rfl
  have N_what_comes' := fn_mk (ps := P_what_comes) X G a_what_comes l_what_comes c_what_comes k_what_comes fun _ _ _ _ _ _ us hl => match us, hl with | [_], _ => rfl
  have N_parts_that_come' := fn_mk (ps := P_parts_that_come) X G a_parts_that_come l_parts_that_come c_parts_that_come k_parts_that_come fun _ _ _ _ _ _ us hl => match us, hl with | [_, _], _ => rfl
  have N_done_at' := fn_mk (ps := P_done_at) X G a_done_at l_done_at c_done_at k_done_at fun _ _ _ _ _ _ us hl => match us, hl with | [_, _], _ => rfl
  have N_next_place' := fn_mk (ps := P_next_place) X G a_next_place l_next_place c_next_place k_next_place fun _ _ _ _ _ _ us hl => match us, hl with | [_, _, _], _ => rfl
  have N_run' := fnD_mk (p1 := "program") (p2 := "picks") X G a_run l_run q_run c_run k_run (fun _ _ _ _ _ _ _ us its h1 h2 => match us, its, h1, h2 with | [_, _], [_], _, _ => ⟨_, rfl, rfl⟩) (fun _ _ _ _ _ _ _ us its h1 h2 => match us, its, h1, h2 with | [_], [_], _, _ => ⟨_, rfl, rfl⟩)
  have N__law_pool' := fn_mk (ps := P__law_pool) X G a__law_pool l__law_pool c__law_pool k__law_pool fun _ _ _ _ _ _ us hl => match us, hl with | [_, _], _ => rfl
  have N__law_take' := fn_mk (ps := P__law_take) X G a__law_take l__law_take c__law_take k__law_take fun _ _ _ _ _ _ us hl => match us, hl with | [_, _], _ => rfl
  have N__law_inner' := fn_mk (ps := P__law_inner) X G a__law_inner l__law_inner c__law_inner k__law_inner fun _ _ _ _ _ _ us hl => match us, hl with | [_], _ => rfl
  have N__law_can' := fn_mk (ps := P__law_can) X G a__law_can l__law_can c__law_can k__law_can fun _ _ _ _ _ _ us hl => match us, hl with | [_], _ => rfl
  have N__law_places' := fn_mk (ps := P__law_places) X G a__law_places l__law_places c__law_places k__law_places fun _ _ _ _ _ _ us hl => match us, hl with | [_, _], _ => rfl
  have N__law_bare' := fn_mk (ps := P__law_bare) X G a__law_bare l__law_bare c__law_bare k__law_bare fun _ _ _ _ _ _ us hl => match us, hl with | [_, _], _ => rfl
  have N__law_dressed' := fn_mk (ps := P__law_dressed) X G a__law_dressed l__law_dressed c__law_dressed k__law_dressed fun _ _ _ _ _ _ us hl => match us, hl with | [_, _], _ => rfl
  have N__law_moved' := fn_mk (ps := P__law_moved) X G a__law_moved l__law_moved c__law_moved k__law_moved fun _ _ _ _ _ _ us hl => match us, hl with | [_, _, _], _ => rfl
  have N__law_put' := fn_mk (ps := P__law_put) X G a__law_put l__law_put c__law_put k__law_put fun _ _ _ _ _ _ us hl => match us, hl with | [_, _, _], _ => rfl
  have N__law_step' := fn_mk (ps := P__law_step) X G a__law_step l__law_step c__law_step k__law_step fun _ _ _ _ _ _ us hl => match us, hl with | [_, _], _ => rfl
  have N__law_parts' := fn_mk (ps := P__law_parts) X G a__law_parts l__law_parts c__law_parts k__law_parts fun _ _ _ _ _ _ us hl => match us, hl with | [_], _ => rfl
  have N__law_high' := fn_mk (ps := P__law_high) X G a__law_high l__law_high c__law_high k__law_high fun _ _ _ _ _ _ us hl => match us, hl with | [_], _ => rfl
  have N__law_run' := fn_mk (ps := P__law_run) X G a__law_run l__law_run c__law_run k__law_run fun _ _ _ _ _ _ us hl => match us, hl with | [_, _], _ => rfl
  have N__law_level' := fn_mk (ps := P__law_level) X G a__law_level l__law_level c__law_level k__law_level fun _ _ _ _ _ _ us hl => match us, hl with | [_], _ => rfl
  have N__law_often' := fn_mk (ps := P__law_often) X G a__law_often l__law_often c__law_often k__law_often fun _ _ _ _ _ _ us hl => match us, hl with | [_, _], _ => rfl
  have N__law_tower' := fn_mk (ps := P__law_tower) X G a__law_tower l__law_tower c__law_tower k__law_tower fun _ _ _ _ _ _ us hl => match us, hl with | [_], _ => rfl
  have N__law_doubled' := fn_mk (ps := P__law_doubled) X G a__law_doubled l__law_doubled c__law_doubled k__law_doubled fun _ _ _ _ _ _ us hl => match us, hl with | [_, _], _ => rfl
  have N__law_halves' := fn_mk (ps := P__law_halves) X G a__law_halves l__law_halves c__law_halves k__law_halves fun _ _ _ _ _ _ us hl => match us, hl with | [_], _ => rfl
  have N__law_row' := fn_mk (ps := P__law_row) X G a__law_row l__law_row c__law_row k__law_row fun _ _ _ _ _ _ us hl => match us, hl with | [_], _ => rfl
  have N__law_wide' := fn_mk (ps := P__law_wide) X G a__law_wide l__law_wide c__law_wide k__law_wide fun _ _ _ _ _ _ us hl => match us, hl with | [_], _ => rfl
  have N__law_deepened' := fn_mk (ps := P__law_deepened) X G a__law_deepened l__law_deepened c__law_deepened k__law_deepened fun _ _ _ _ _ _ us hl => match us, hl with | [_], _ => rfl
  have N__law_odd' := fn_mk (ps := P__law_odd) X G a__law_odd l__law_odd c__law_odd k__law_odd fun _ _ _ _ _ _ us hl => match us, hl with | [_], _ => rfl
  have N__law_told' := fn_mk (ps := P__law_told) X G a__law_told l__law_told c__law_told k__law_told fun _ _ _ _ _ _ us hl => match us, hl with | [_, _], _ => rfl
  have N_law' := fn_mk (ps := P_law) X G a_law l_law c_law k_law fun _ _ _ _ _ _ us hl => match us, hl with | [_], _ => rfl
  have m_list : mg "list" = none := PySem.W.mg_none_of X G z_list
  have m_sum : mg "sum" = none := PySem.W.mg_none_of X G z_sum
  have m_max : mg "max" = none := PySem.W.mg_none_of X G z_max
  have m_len : mg "len" = none := PySem.W.mg_none_of X G z_len
  have m_tuple : mg "tuple" = none := PySem.W.mg_none_of X G z_tuple
  have m_reversed : mg "reversed" = none := PySem.W.mg_none_of X G z_reversed
  have m_range : mg "range" = none := PySem.W.mg_none_of X G z_range
  have m_str : mg "str" = none := PySem.W.mg_none_of X G z_str
  have m_enumerate : mg "enumerate" = none := PySem.W.mg_none_of X G z_enumerate
  have m_int : mg "int" = none := PySem.W.mg_none_of X G z_int
  have m_isinstance : mg "isinstance" = none := PySem.W.mg_none_of X G z_isinstance
  have m_ValueError : mg "ValueError" = none := PySem.W.mg_none_of X G z_ValueError
  have m_min : mg "min" = none := PySem.W.mg_none_of X G z_min
  have c_MOST_STEPS : Cst K mg "MOST_STEPS" (.int 200) := cst_int (PySem.W.mg_of X G e_MOST_STEPS)
  have c_MOST_PARTS : Cst K mg "MOST_PARTS" (.int 1500) := cst_int (PySem.W.mg_of X G e_MOST_PARTS)
  have c_MOST_DEEP : Cst K mg "MOST_DEEP" (.int 100) := cst_int (PySem.W.mg_of X G e_MOST_DEEP)
  have k_NoFit : Cl K mg "NoFit" C_NoFit := ⟨PySem.W.mg_of X G ka_NoFit, kb_NoFit, kd_NoFit, kt_NoFit, kf_NoFit⟩
  have k_NoKind : Cl K mg "NoKind" C_NoKind := ⟨PySem.W.mg_of X G ka_NoKind, kb_NoKind, kd_NoKind, kt_NoKind, kf_NoKind⟩
  have k_NoLong : Cl K mg "NoLong" C_NoLong := ⟨PySem.W.mg_of X G ka_NoLong, kb_NoLong, kd_NoLong, kt_NoLong, kf_NoLong⟩
  have k_NoMaking : Cl K mg "NoMaking" C_NoMaking := ⟨PySem.W.mg_of X G ka_NoMaking, kb_NoMaking, kd_NoMaking, kt_NoMaking, kf_NoMaking⟩
  have k_NoNumber : Cl K mg "NoNumber" C_NoNumber := ⟨PySem.W.mg_of X G ka_NoNumber, kb_NoNumber, kd_NoNumber, kt_NoNumber, kf_NoNumber⟩
  have k_NoStep : Cl K mg "NoStep" C_NoStep := ⟨PySem.W.mg_of X G ka_NoStep, kb_NoStep, kd_NoStep, kt_NoStep, kf_NoStep⟩
  have k_NoText : Cl K mg "NoText" C_NoText := ⟨PySem.W.mg_of X G ka_NoText, kb_NoText, kd_NoText, kt_NoText, kf_NoText⟩
  have k_TooMany : Cl K mg "TooMany" C_TooMany := ⟨PySem.W.mg_of X G ka_TooMany, kb_TooMany, kd_TooMany, kt_TooMany, kf_TooMany⟩
  have k_TooLong : Cl K mg "TooLong" C_TooLong := ⟨PySem.W.mg_of X G ka_TooLong, kb_TooLong, kd_TooLong, kt_TooLong, kf_TooLong⟩
  have k_KindError : Cl K mg "KindError" C_KindError := ⟨PySem.W.mg_of X G ka_KindError, kb_KindError, kd_KindError, kt_KindError, kf_KindError⟩
  have x_TooLong : ExN K mg "TooLong" C_TooLong := ⟨PySem.W.mg_of X G ka_TooLong, kx_TooLong, kk_TooLong, kb_TooLong, kt_TooLong⟩
  have ec_TooLong : ExcC K C_TooLong := ⟨ega_TooLong, egt_TooLong, kb_TooLong, edc_TooLong, ecc_TooLong, spc, tkc, emo_TooLong⟩
  let T : Tx K mg := { a_inner := _, fd_inner := _, n_inner := N_inner', a_parts_of := _, fd_parts_of := _, n_parts_of := N_parts_of', a_deep_of := _, fd_deep_of := _, n_deep_of := N_deep_of', a_part_at := _, fd_part_at := _, n_part_at := N_part_at', a_with_inner := _, fd_with_inner := _, n_with_inner := N_with_inner', a_with_part := _, fd_with_part := _, n_with_part := N_with_part', a_tidied_within := _, fd_tidied_within := _, n_tidied_within := N_tidied_within', a_tidied := _, fd_tidied := _, n_tidied := N_tidied', a_can_step := _, fd_can_step := _, n_can_step := N_can_step', a_put_places := _, fd_put_places := _, n_put_places := N_put_places', a_step_places := _, fd_step_places := _, n_step_places := N_step_places', a_name_count := _, fd_name_count := _, n_name_count := N_name_count', a_with_given := _, fd_with_given := _, n_with_given := N_with_given', a_what_comes := _, fd_what_comes := _, n_what_comes := N_what_comes', a_parts_that_come := _, fd_parts_that_come := _, n_parts_that_come := N_parts_that_come', a_done_at := _, fd_done_at := _, n_done_at := N_done_at', a_next_place := _, fd_next_place := _, n_next_place := N_next_place', a_run := _, fd_run := _, n_run := N_run', a__law_pool := _, fd__law_pool := _, n__law_pool := N__law_pool', a__law_take := _, fd__law_take := _, n__law_take := N__law_take', a__law_inner := _, fd__law_inner := _, n__law_inner := N__law_inner', a__law_can := _, fd__law_can := _, n__law_can := N__law_can', a__law_places := _, fd__law_places := _, n__law_places := N__law_places', a__law_bare := _, fd__law_bare := _, n__law_bare := N__law_bare', a__law_dressed := _, fd__law_dressed := _, n__law_dressed := N__law_dressed', a__law_moved := _, fd__law_moved := _, n__law_moved := N__law_moved', a__law_put := _, fd__law_put := _, n__law_put := N__law_put', a__law_step := _, fd__law_step := _, n__law_step := N__law_step', a__law_parts := _, fd__law_parts := _, n__law_parts := N__law_parts', a__law_high := _, fd__law_high := _, n__law_high := N__law_high', a__law_run := _, fd__law_run := _, n__law_run := N__law_run', a__law_level := _, fd__law_level := _, n__law_level := N__law_level', a__law_often := _, fd__law_often := _, n__law_often := N__law_often', a__law_tower := _, fd__law_tower := _, n__law_tower := N__law_tower', a__law_doubled := _, fd__law_doubled := _, n__law_doubled := N__law_doubled', a__law_halves := _, fd__law_halves := _, n__law_halves := N__law_halves', a__law_row := _, fd__law_row := _, n__law_row := N__law_row', a__law_wide := _, fd__law_wide := _, n__law_wide := N__law_wide', a__law_deepened := _, fd__law_deepened := _, n__law_deepened := N__law_deepened', a__law_odd := _, fd__law_odd := _, n__law_odd := N__law_odd', a__law_told := _, fd__law_told := _, n__law_told := N__law_told', a_law := _, fd_law := _, n_law := N_law', v__law_tower := v__law_tower, v__law_wide := v__law_wide, v__law_deepened := v__law_deepened, v__law_halves := v__law_halves, m_list := m_list, m_sum := m_sum, m_max := m_max, m_len := m_len, m_tuple := m_tuple, m_reversed := m_reversed, m_range := m_range, m_str := m_str, m_enumerate := m_enumerate, m_int := m_int, m_isinstance := m_isinstance, m_ValueError := m_ValueError, m_min := m_min, c_MOST_STEPS := c_MOST_STEPS, c_MOST_PARTS := c_MOST_PARTS, c_MOST_DEEP := c_MOST_DEEP, C_TooLong := C_TooLong, C_NoFit := C_NoFit, C_NoKind := C_NoKind, C_NoLong := C_NoLong, C_NoMaking := C_NoMaking, C_NoNumber := C_NoNumber, C_NoStep := C_NoStep, C_NoText := C_NoText, C_TooMany := C_TooMany, C_KindError := C_KindError, x_TooLong := x_TooLong, k_NoFit := k_NoFit, k_NoKind := k_NoKind, k_NoLong := k_NoLong, k_NoMaking := k_NoMaking, k_NoNumber := k_NoNumber, k_NoStep := k_NoStep, k_NoText := k_NoText, k_TooMany := k_TooMany, k_TooLong := k_TooLong, k_KindError := k_KindError, ec_TooLong := ec_TooLong, sb_TooLong_KindError := sb_TooLong_KindError, sb_TooLong_ValueError := sb_TooLong_ValueError, sb_TooLong_NoFit := sb_TooLong_NoFit, sb_TooLong_NoKind := sb_TooLong_NoKind, sb_TooLong_NoLong := sb_TooLong_NoLong, sb_TooLong_NoMaking := sb_TooLong_NoMaking, sb_TooLong_NoNumber := sb_TooLong_NoNumber, sb_TooLong_NoStep := sb_TooLong_NoStep, sb_TooLong_NoText := sb_TooLong_NoText, sb_TooLong_TooMany := sb_TooLong_TooMany }
  exact ⟨_, fun s v => .of_eq rfl, fun base _ _ => ok_law T⟩
end Kf
open PySem PySem.W PyProof.Rows
set_option maxHeartbeats 0 in
theorem PySem.Challenge.cw_kindfill_k19_towers_too_long_holds : PySem.Challenge.rw_kindfill_k19_towers_too_long.Holds := by
  w_on; o_law; k_head; (case hw => w_witness2)
  k_fill
  refine L2.walk_of (l := PySem.Challenge.rw_kindfill_k19_towers_too_long) (n := 63) (k := 215) (x := "_law_script") (CX := fun _ => L2.CX0) (sp := fun w => Kf.liftSp _ (Kf.lawSp 63)) rfl (by decide) rfl ⟨rfl, by decide, by decide⟩ (fun w h Y => PySem.W.kIn_of Y) ?F (fun _ _ a ns hl _ hS => Kf.law_start hl hS) (fun _ _ _ _ _ h => h)
  case F =>
    intro w mg fa h KX G hmg
    refine' Kf.all_mk KX G hmg ?a_inner ?l_inner ?c_inner ?k_inner ?a_parts_of ?l_parts_of ?c_parts_of ?k_parts_of ?a_deep_of ?l_deep_of ?c_deep_of ?k_deep_of ?a_part_at ?l_part_at ?c_part_at ?k_part_at ?a_with_inner ?l_with_inner ?c_with_inner ?k_with_inner ?a_with_part ?l_with_part ?c_with_part ?k_with_part ?a_tidied_within ?l_tidied_within ?c_tidied_within ?k_tidied_within ?a_tidied ?l_tidied ?c_tidied ?k_tidied ?a_can_step ?l_can_step ?c_can_step ?k_can_step ?a_put_places ?l_put_places ?c_put_places ?k_put_places ?a_step_places ?l_step_places ?c_step_places ?k_step_places ?a_name_count ?l_name_count ?c_name_count ?k_name_count ?a_with_given ?l_with_given ?c_with_given ?k_with_given ?a_what_comes ?l_what_comes ?c_what_comes ?k_what_comes ?a_parts_that_come ?l_parts_that_come ?c_parts_that_come ?k_parts_that_come ?a_done_at ?l_done_at ?c_done_at ?k_done_at ?a_next_place ?l_next_place ?c_next_place ?k_next_place ?a_run ?l_run ?q_run ?c_run ?k_run ?a__law_pool ?l__law_pool ?c__law_pool ?k__law_pool ?a__law_take ?l__law_take ?c__law_take ?k__law_take ?a__law_inner ?l__law_inner ?c__law_inner ?k__law_inner ?a__law_can ?l__law_can ?c__law_can ?k__law_can ?a__law_places ?l__law_places ?c__law_places ?k__law_places ?a__law_bare ?l__law_bare ?c__law_bare ?k__law_bare ?a__law_dressed ?l__law_dressed ?c__law_dressed ?k__law_dressed ?a__law_moved ?l__law_moved ?c__law_moved ?k__law_moved ?a__law_put ?l__law_put ?c__law_put ?k__law_put ?a__law_step ?l__law_step ?c__law_step ?k__law_step ?a__law_parts ?l__law_parts ?c__law_parts ?k__law_parts ?a__law_high ?l__law_high ?c__law_high ?k__law_high ?a__law_run ?l__law_run ?c__law_run ?k__law_run ?a__law_level ?l__law_level ?c__law_level ?k__law_level ?a__law_often ?l__law_often ?c__law_often ?k__law_often ?a__law_tower ?l__law_tower ?c__law_tower ?k__law_tower ?a__law_doubled ?l__law_doubled ?c__law_doubled ?k__law_doubled ?a__law_halves ?l__law_halves ?c__law_halves ?k__law_halves ?a__law_row ?l__law_row ?c__law_row ?k__law_row ?a__law_wide ?l__law_wide ?c__law_wide ?k__law_wide ?a__law_deepened ?l__law_deepened ?c__law_deepened ?k__law_deepened ?a__law_odd ?l__law_odd ?c__law_odd ?k__law_odd ?a__law_told ?l__law_told ?c__law_told ?k__law_told ?a_law ?l_law ?c_law ?k_law ?v__law_tower ?v__law_wide ?v__law_deepened ?v__law_halves ?z_list ?z_sum ?z_max ?z_len ?z_tuple ?z_reversed ?z_range ?z_str ?z_enumerate ?z_int ?z_isinstance ?z_ValueError ?z_min ?e_MOST_STEPS ?e_MOST_PARTS ?e_MOST_DEEP ?ka_NoFit ?kb_NoFit ?kt_NoFit ?ka_NoKind ?kb_NoKind ?kt_NoKind ?ka_NoLong ?kb_NoLong ?kt_NoLong ?ka_NoMaking ?kb_NoMaking ?kt_NoMaking ?ka_NoNumber ?kb_NoNumber ?kt_NoNumber ?ka_NoStep ?kb_NoStep ?kt_NoStep ?ka_NoText ?kb_NoText ?kt_NoText ?ka_TooMany ?kb_TooMany ?kt_TooMany ?ka_TooLong ?kb_TooLong ?kt_TooLong ?ka_KindError ?kb_KindError ?kt_KindError ?kd_NoFit ?kf_NoFit ?kd_NoKind ?kf_NoKind ?kd_NoLong ?kf_NoLong ?kd_NoMaking ?kf_NoMaking ?kd_NoNumber ?kf_NoNumber ?kd_NoStep ?kf_NoStep ?kd_NoText ?kf_NoText ?kd_TooMany ?kf_TooMany ?kd_TooLong ?kf_TooLong ?kd_KindError ?kf_KindError ?kk_TooLong ?kx_TooLong ?ega_TooLong ?egt_TooLong ?edc_TooLong ?ecc_TooLong ?emo_TooLong ?spc ?tkc ?sb_TooLong_KindError ?sb_TooLong_ValueError ?sb_TooLong_NoFit ?sb_TooLong_NoKind ?sb_TooLong_NoLong ?sb_TooLong_NoMaking ?sb_TooLong_NoNumber ?sb_TooLong_NoStep ?sb_TooLong_NoText ?sb_TooLong_TooMany
    (case a_inner => k_is)
    (case l_inner => k_is)
    (case c_inner => k_is)
    (case k_inner => k_is)
    (case a_parts_of => k_is)
    (case l_parts_of => k_is)
    (case c_parts_of => k_is)
    (case k_parts_of => k_is)
    (case a_deep_of => k_is)
    (case l_deep_of => k_is)
    (case c_deep_of => k_is)
    (case k_deep_of => k_is)
    (case a_part_at => k_is)
    (case l_part_at => k_is)
    (case c_part_at => k_is)
    (case k_part_at => k_is)
    (case a_with_inner => k_is)
    (case l_with_inner => k_is)
    (case c_with_inner => k_is)
    (case k_with_inner => k_is)
    (case a_with_part => k_is)
    (case l_with_part => k_is)
    (case c_with_part => k_is)
    (case k_with_part => k_is)
    (case a_tidied_within => k_is)
    (case l_tidied_within => k_is)
    (case c_tidied_within => k_is)
    (case k_tidied_within => k_is)
    (case a_tidied => k_is)
    (case l_tidied => k_is)
    (case c_tidied => k_is)
    (case k_tidied => k_is)
    (case a_can_step => k_is)
    (case l_can_step => k_is)
    (case c_can_step => k_is)
    (case k_can_step => k_is)
    (case a_put_places => k_is)
    (case l_put_places => k_is)
    (case c_put_places => k_is)
    (case k_put_places => k_is)
    (case a_step_places => k_is)
    (case l_step_places => k_is)
    (case c_step_places => k_is)
    (case k_step_places => k_is)
    (case a_name_count => k_is)
    (case l_name_count => k_is)
    (case c_name_count => k_is)
    (case k_name_count => k_is)
    (case a_with_given => k_is)
    (case l_with_given => k_is)
    (case c_with_given => k_is)
    (case k_with_given => k_is)
    (case a_what_comes => k_is)
    (case l_what_comes => k_is)
    (case c_what_comes => k_is)
    (case k_what_comes => k_is)
    (case a_parts_that_come => k_is)
    (case l_parts_that_come => k_is)
    (case c_parts_that_come => k_is)
    (case k_parts_that_come => k_is)
    (case a_done_at => k_is)
    (case l_done_at => k_is)
    (case c_done_at => k_is)
    (case k_done_at => k_is)
    (case a_next_place => k_is)
    (case l_next_place => k_is)
    (case c_next_place => k_is)
    (case k_next_place => k_is)
    (case a_run => k_is)
    (case l_run => k_is)
    (case q_run => k_is)
    (case c_run => k_is)
    (case k_run => k_is)
    (case a__law_pool => k_is)
    (case l__law_pool => k_is)
    (case c__law_pool => k_is)
    (case k__law_pool => k_is)
    (case a__law_take => k_is)
    (case l__law_take => k_is)
    (case c__law_take => k_is)
    (case k__law_take => k_is)
    (case a__law_inner => k_is)
    (case l__law_inner => k_is)
    (case c__law_inner => k_is)
    (case k__law_inner => k_is)
    (case a__law_can => k_is)
    (case l__law_can => k_is)
    (case c__law_can => k_is)
    (case k__law_can => k_is)
    (case a__law_places => k_is)
    (case l__law_places => k_is)
    (case c__law_places => k_is)
    (case k__law_places => k_is)
    (case a__law_bare => k_is)
    (case l__law_bare => k_is)
    (case c__law_bare => k_is)
    (case k__law_bare => k_is)
    (case a__law_dressed => k_is)
    (case l__law_dressed => k_is)
    (case c__law_dressed => k_is)
    (case k__law_dressed => k_is)
    (case a__law_moved => k_is)
    (case l__law_moved => k_is)
    (case c__law_moved => k_is)
    (case k__law_moved => k_is)
    (case a__law_put => k_is)
    (case l__law_put => k_is)
    (case c__law_put => k_is)
    (case k__law_put => k_is)
    (case a__law_step => k_is)
    (case l__law_step => k_is)
    (case c__law_step => k_is)
    (case k__law_step => k_is)
    (case a__law_parts => k_is)
    (case l__law_parts => k_is)
    (case c__law_parts => k_is)
    (case k__law_parts => k_is)
    (case a__law_high => k_is)
    (case l__law_high => k_is)
    (case c__law_high => k_is)
    (case k__law_high => k_is)
    (case a__law_run => k_is)
    (case l__law_run => k_is)
    (case c__law_run => k_is)
    (case k__law_run => k_is)
    (case a__law_level => k_is)
    (case l__law_level => k_is)
    (case c__law_level => k_is)
    (case k__law_level => k_is)
    (case a__law_often => k_is)
    (case l__law_often => k_is)
    (case c__law_often => k_is)
    (case k__law_often => k_is)
    (case a__law_tower => k_is)
    (case l__law_tower => k_is)
    (case c__law_tower => k_is)
    (case k__law_tower => k_is)
    (case a__law_doubled => k_is)
    (case l__law_doubled => k_is)
    (case c__law_doubled => k_is)
    (case k__law_doubled => k_is)
    (case a__law_halves => k_is)
    (case l__law_halves => k_is)
    (case c__law_halves => k_is)
    (case k__law_halves => k_is)
    (case a__law_row => k_is)
    (case l__law_row => k_is)
    (case c__law_row => k_is)
    (case k__law_row => k_is)
    (case a__law_wide => k_is)
    (case l__law_wide => k_is)
    (case c__law_wide => k_is)
    (case k__law_wide => k_is)
    (case a__law_deepened => k_is)
    (case l__law_deepened => k_is)
    (case c__law_deepened => k_is)
    (case k__law_deepened => k_is)
    (case a__law_odd => k_is)
    (case l__law_odd => k_is)
    (case c__law_odd => k_is)
    (case k__law_odd => k_is)
    (case a__law_told => k_is)
    (case l__law_told => k_is)
    (case c__law_told => k_is)
    (case k__law_told => k_is)
    (case a_law => k_is)
    (case l_law => k_is)
    (case c_law => k_is)
    (case k_law => k_is)
    (case v__law_tower => k_is)
    (case v__law_wide => k_is)
    (case v__law_deepened => k_is)
    (case v__law_halves => k_is)
    (case z_list => k_is)
    (case z_sum => k_is)
    (case z_max => k_is)
    (case z_len => k_is)
    (case z_tuple => k_is)
    (case z_reversed => k_is)
    (case z_range => k_is)
    (case z_str => k_is)
    (case z_enumerate => k_is)
    (case z_int => k_is)
    (case z_isinstance => k_is)
    (case z_ValueError => k_is)
    (case z_min => k_is)
    (case e_MOST_STEPS => k_is)
    (case e_MOST_PARTS => k_is)
    (case e_MOST_DEEP => k_is)
    (case ka_NoFit => k_is)
    (case kb_NoFit => k_is)
    (case kt_NoFit => k_is)
    (case ka_NoKind => k_is)
    (case kb_NoKind => k_is)
    (case kt_NoKind => k_is)
    (case ka_NoLong => k_is)
    (case kb_NoLong => k_is)
    (case kt_NoLong => k_is)
    (case ka_NoMaking => k_is)
    (case kb_NoMaking => k_is)
    (case kt_NoMaking => k_is)
    (case ka_NoNumber => k_is)
    (case kb_NoNumber => k_is)
    (case kt_NoNumber => k_is)
    (case ka_NoStep => k_is)
    (case kb_NoStep => k_is)
    (case kt_NoStep => k_is)
    (case ka_NoText => k_is)
    (case kb_NoText => k_is)
    (case kt_NoText => k_is)
    (case ka_TooMany => k_is)
    (case kb_TooMany => k_is)
    (case kt_TooMany => k_is)
    (case ka_TooLong => k_is)
    (case kb_TooLong => k_is)
    (case kt_TooLong => k_is)
    (case ka_KindError => k_is)
    (case kb_KindError => k_is)
    (case kt_KindError => k_is)
    (case kd_NoFit => k_is)
    (case kf_NoFit => k_is)
    (case kd_NoKind => k_is)
    (case kf_NoKind => k_is)
    (case kd_NoLong => k_is)
    (case kf_NoLong => k_is)
    (case kd_NoMaking => k_is)
    (case kf_NoMaking => k_is)
    (case kd_NoNumber => k_is)
    (case kf_NoNumber => k_is)
    (case kd_NoStep => k_is)
    (case kf_NoStep => k_is)
    (case kd_NoText => k_is)
    (case kf_NoText => k_is)
    (case kd_TooMany => k_is)
    (case kf_TooMany => k_is)
    (case kd_TooLong => k_is)
    (case kf_TooLong => k_is)
    (case kd_KindError => k_is)
    (case kf_KindError => k_is)
    (case kk_TooLong => k_is)
    (case kx_TooLong => k_exc)
    (case ega_TooLong => k_is)
    (case egt_TooLong => k_is)
    (case edc_TooLong => k_is)
    (case ecc_TooLong => k_is)
    (case emo_TooLong => k_is)
    (case spc => k_is)
    (case tkc => k_is)
    (case sb_TooLong_KindError => k_is)
    (case sb_TooLong_ValueError => k_is)
    (case sb_TooLong_NoFit => k_is)
    (case sb_TooLong_NoKind => k_is)
    (case sb_TooLong_NoLong => k_is)
    (case sb_TooLong_NoMaking => k_is)
    (case sb_TooLong_NoNumber => k_is)
    (case sb_TooLong_NoStep => k_is)
    (case sb_TooLong_NoText => k_is)
    (case sb_TooLong_TooMany => k_is)
