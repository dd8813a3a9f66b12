import PyProof.Rows.All
import Wide.All
import OpenK.AllK
import Wide.FinOn
import HandS.ForMost
import HandS.ForExc
import HandS.IsInst
import HandS.Deep
import HandS.Wide
import HandS.RevRange
import HandS.More
import HandS.TupLe
import HandS.ExcIs
import HandS.RaiseMore
import KE.KRevSl
import HandS.SortKw
import KE.KMinKey
import HandS.CallSlots
import HandS.Defaults
import HandS.Flow
import HandS.NoneIn
import KE.GoesMore
import KE.KExcIs
import HandS.Finally
import HandS.DictComp
import KE.DataMinMax
import KE.KEqDict
import HandS.ExcInit
import HandS.ExcValue
import KE.SortData
import HandS.Replace
import HandS.ReplaceLit
import HandS.SetFor
import HandS.SetTxt0
import HandS.TupAny
import HandS.Text
import PySem.Challenge.RW_kindfill_k08_kinds_of_programs
set_option Elab.async false
set_option maxRecDepth 100000
set_option linter.all false
/-! Kf: a layer of readings over plain data. -/
namespace Kf
open PySem PySem.Spec L2
open PyProof.Rows hiding St

/-- plain data; scr is the script, ref an owned cell -/
inductive D where
  | non | bl (b : Bool) | int (i : Int) | str (x : Str) | tup (ds : List D) | lst (ds : List D) | ref (a : Addr) | ty (n : String) | scr (ns : List Int) | edic
  deriving Inhabited

/-- what an owned address holds -/
inductive Cell where
  | lst (ds : List D)
  | pool
  | dic (kvs : List (Key × D))
  | dicL (kvs : List (Key × D)) (o : HO)
  | exc (cls : Value) (fs : Option (List (Str × D)))
  | ins (C : Addr) (fs : List (Str × D))

abbrev Ow := Addr → Option Cell
def updO (O : Ow) (a : Addr) (c : Cell) : Ow := fun b => if b = a then some c else O b
theorem updO_same {O : Ow} {a : Addr} {c : Cell} : updO O a c a = some c := if_pos rfl
theorem updO_ne {O : Ow} {a b : Addr} {c : Cell} (h : b ≠ a) : updO O a c b = O b := if_neg h
theorem updO_updO {O : Ow} {a : Addr} {c d : Cell} : updO (updO O a c) a d = updO O a d := by
  funext b; unfold updO; split <;> rfl
theorem updO_self {O : Ow} {a : Addr} {c : Cell} (h : O a = some c) : updO O a c = O := by
  funext b; unfold updO; split
  · rename_i e; rw [e, h]
  · rfl
/-- without a cell -/
def delO (O : Ow) (a : Addr) : Ow := fun b => if b = a then none else O b
theorem delO_updO {O : Ow} {a : Addr} {c : Cell} (h : O a = none) : delO (updO O a c) a = O := by
  funext b; unfold delO updO; split
  · rename_i e; rw [e, h]
  · rfl

abbrev DEnv := List (Option D)
abbrev VD := D → Ow → Prop
abbrev FE := DEnv → Ow → VD → Prop
abbrev FT := DEnv → Ow → (Bool → Ow → Prop) → Prop
abbrev FA := DEnv → Ow → (List D → Ow → Prop) → Prop

section
variable (K : PySem.W.Frag) (F : Hp)
mutual
def Rep : D → V → Prop
  | .non, v => v = .non
  | .bl b, v => v = .bl b
  | .int i, v => v = .int i
  | .str x, v => v = .str x
  | .tup ds, v => ∃ a xs, v = .ref a ∧ SqT K F a xs ∧ RepAll ds xs
  | .lst ds, v => ∃ a xs, v = .ref a ∧ F a = some (.lst xs) ∧ RepAll ds xs
  | .ref a, v => v = .ref a
  | .ty n, v => v = .ty n
  | .scr ns, v => ∃ a, v = .ref a ∧ SqL K F a (ns.map V.int)
  | .edic, v => ∃ a, v = .ref a ∧ F a = some (.dK [])
def RepAll : List D → List V → Prop
  | [], vs => vs = []
  | d :: ds, vs => ∃ v r, vs = v :: r ∧ Rep d v ∧ RepAll ds r
end
end

theorem Same.seqT {K : PySem.W.Frag} {H H' : Hp} {a : Addr} {xs : List V} (e : Same H H') (h : SqT K H a xs) : SqT K H' a xs := by
  rcases h with (h | ⟨o, h⟩) | h
  · exact .inl (.inl (e _ _ h))
  · exact .inl (.inr ⟨o, e _ _ h⟩)
  · exact .inr h

section
variable {K : PySem.W.Frag} {F F' : Hp}
mutual
theorem Rep.mono (s : Same F F') : ∀ (d : D) (v : V), Rep K F d v → Rep K F' d v
  | .non, _, h => by simpa only [Rep] using h
  | .bl _, _, h => by simpa only [Rep] using h
  | .int _, _, h => by simpa only [Rep] using h
  | .str _, _, h => by simpa only [Rep] using h
  | .ref _, _, h => by simpa only [Rep] using h
  | .ty _, _, h => by simpa only [Rep] using h
  | .tup ds, _, h => by
    simp only [Rep] at h ⊢
    obtain ⟨a, xs, e, h1, h2⟩ := h
    exact ⟨a, xs, e, Same.seqT s h1, RepAll.mono s ds xs h2⟩
  | .lst ds, _, h => by
    simp only [Rep] at h ⊢
    obtain ⟨a, xs, e, h1, h2⟩ := h
    exact ⟨a, xs, e, s _ _ h1, RepAll.mono s ds xs h2⟩
  | .scr ns, _, h => by
    simp only [Rep] at h ⊢
    obtain ⟨a, e, h1⟩ := h
    exact ⟨a, e, s.seq h1⟩
  | .edic, _, h => by
    simp only [Rep] at h ⊢
    obtain ⟨a, e, h1⟩ := h
    exact ⟨a, e, s _ _ h1⟩
theorem RepAll.mono (s : Same F F') : ∀ (ds : List D) (vs : List V), RepAll K F ds vs → RepAll K F' ds vs
  | [], _, h => by simpa only [RepAll] using h
  | d :: ds, _, h => by
    simp only [RepAll] at h ⊢
    obtain ⟨v, r, e, h1, h2⟩ := h
    exact ⟨v, r, e, Rep.mono s d v h1, RepAll.mono s ds r h2⟩
end
theorem RepAll.length : ∀ {ds : List D} {vs : List V}, RepAll K F ds vs → ds.length = vs.length
  | [], _, h => by simp only [RepAll] at h; rw [h]; rfl
  | d :: ds, _, h => by
    simp only [RepAll] at h
    obtain ⟨v, r, rfl, _, h2⟩ := h
    rw [List.length_cons, List.length_cons, RepAll.length h2]
theorem RepAll.get : ∀ {ds : List D} {vs : List V} {i : Nat} {d : D}, RepAll K F ds vs → ds[i]? = some d → ∃ v, vs[i]? = some v ∧ Rep K F d v
  | [], _, _, _, h, e => by simp at e
  | d :: ds, _, i, _, h, e => by
    simp only [RepAll] at h
    obtain ⟨v, r, rfl, h1, h2⟩ := h
    cases i with
    | zero => simp at e; subst e; exact ⟨v, rfl, h1⟩
    | succ i => simp at e ⊢; exact RepAll.get h2 e
theorem RepAll.append : ∀ {ds es : List D} {vs ws : List V}, RepAll K F ds vs → RepAll K F es ws → RepAll K F (ds ++ es) (vs ++ ws)
  | [], _, _, _, h, q => by simp only [RepAll] at h; subst h; exact q
  | d :: ds, es, _, ws, h, q => by
    simp only [RepAll] at h
    obtain ⟨v, r, rfl, h1, h2⟩ := h
    rw [List.cons_append, List.cons_append]
    simp only [RepAll]
    exact ⟨v, r ++ ws, rfl, h1, RepAll.append h2 q⟩
theorem RepAll.nil : RepAll K F [] [] := by simp only [RepAll]
theorem RepAll.cons {d : D} {ds : List D} {v : V} {vs : List V} (h : Rep K F d v) (q : RepAll K F ds vs) : RepAll K F (d :: ds) (v :: vs) := by
  simp only [RepAll]; exact ⟨v, vs, rfl, h, q⟩
theorem RepAll.one {d : D} {v : V} (h : Rep K F d v) : RepAll K F [d] [v] := .cons h .nil
theorem RepAll.set {x : D} {y : V} (hx : Rep K F x y) : ∀ {ds : List D} {vs : List V} (i : Nat), RepAll K F ds vs → RepAll K F (ds.set i x) (vs.set i y)
  | [], _, _, h => by simp only [RepAll] at h; subst h; exact .nil
  | d :: ds, _, i, h => by
    simp only [RepAll] at h
    obtain ⟨v, r, rfl, h1, h2⟩ := h
    cases i with
    | zero => exact .cons hx h2
    | succ i => exact .cons h1 (RepAll.set hx i h2)
theorem RepAll.drop : ∀ {ds : List D} {vs : List V} (n : Nat), RepAll K F ds vs → RepAll K F (ds.drop n) (vs.drop n)
  | _, _, 0, h => h
  | [], _, n + 1, h => by simp only [RepAll] at h; subst h; exact .nil
  | d :: ds, _, n + 1, h => by
    simp only [RepAll] at h
    obtain ⟨v, r, rfl, h1, h2⟩ := h
    exact RepAll.drop n h2
theorem RepAll.take : ∀ {ds : List D} {vs : List V} (n : Nat), RepAll K F ds vs → RepAll K F (ds.take n) (vs.take n)
  | _, _, 0, h => .nil
  | [], _, n + 1, h => by simp only [RepAll] at h; subst h; exact .nil
  | d :: ds, _, n + 1, h => by
    simp only [RepAll] at h
    obtain ⟨v, r, rfl, h1, h2⟩ := h
    exact .cons h1 (RepAll.take n h2)
theorem RepAll.reverse {ds : List D} {vs : List V} (h : RepAll K F ds vs) : RepAll K F ds.reverse vs.reverse := by
  induction ds generalizing vs with
  | nil => simp only [RepAll] at h; subst h; exact .nil
  | cons d ds ih =>
    simp only [RepAll] at h
    obtain ⟨v, r, rfl, h1, h2⟩ := h
    rw [List.reverse_cons, List.reverse_cons]
    exact .append (ih h2) (.one h1)
theorem RepAll.ints {vs : List V} : ∀ {ns : List Int}, RepAll K F (ns.map D.int) vs → vs = ns.map V.int := by
  intro ns h
  induction ns generalizing vs with
  | nil => rw [List.map_nil] at h; simpa only [RepAll, List.map_nil] using h
  | cons n ns ih =>
    rw [List.map_cons] at h
    simp only [RepAll, Rep] at h
    obtain ⟨v, r, rfl, rfl, h2⟩ := h
    rw [ih h2]; rfl
theorem RepAll.of_strs : ∀ {ns : List Str}, RepAll K F (ns.map D.str) (ns.map V.str)
  | [] => .nil
  | n :: ns => .cons (by simp only [Rep]) RepAll.of_strs
end

/-! ### the ghost state -/
/-- the entries of a dict -/
def KvOk (K : PySem.W.Frag) (F : Hp) : List (Key × D) → List (Key × V) → Prop := Paired fun p q => p.1 = q.1 ∧ Rep K F p.2 q.2
theorem KvOk.mono {K : PySem.W.Frag} {F F' : Hp} (s : Same F F') {kvs : List (Key × D)} {vs : List (Key × V)} (h : KvOk K F kvs vs) : KvOk K F' kvs vs := Paired.mapP h fun _ _ z => ⟨z.1, z.2.mono s⟩
/-- the fields of an instance -/
def FsOk (K : PySem.W.Frag) (F : Hp) : List (Str × D) → List (Str × V) → Prop := Paired fun p q => p.1 = q.1 ∧ Rep K F p.2 q.2
theorem FsOk.mono {K : PySem.W.Frag} {F F' : Hp} (s : Same F F') {fs : List (Str × D)} {fv : List (Str × V)} (h : FsOk K F fs fv) : FsOk K F' fs fv := Paired.mapP h fun _ _ z => ⟨z.1, z.2.mono s⟩
/-- an exception's object, held as a value -/
def IsX (a : Addr) (cls : Value) (d : Option Addr) (o : HO) : Prop := ∃ φ, o = .ext φ ∧ ∀ h, φ h → ∃ oe vs, h.get? a = some oe ∧ Zc cls d oe ∧ oe.data = .fields vs
def XdR (K : PySem.W.Frag) (F : Hp) : Option (List (Str × D)) → Option Addr → Prop
  | none, dd => dd = none
  | some fs, dd => ∃ dx fv, dd = some dx ∧ F dx = some (.xd fv) ∧ FsOk K F fs fv
theorem XdR.mono {K : PySem.W.Frag} {F F' : Hp} (s : Same F F') {fs : Option (List (Str × D))} {dd : Option Addr} (h : XdR K F fs dd) : XdR K F' fs dd := by
  cases fs with
  | none => exact h
  | some fs => obtain ⟨dx, fv, e, h1, h2⟩ := h; exact ⟨dx, fv, e, s _ _ h1, h2.mono s⟩
def CellOk (K : PySem.W.Frag) (F H : Hp) (a : Addr) : Cell → Prop
  | .lst ds => ∃ vs, H a = some (.lst vs) ∧ RepAll K F ds vs
  | .pool => ∃ x y : Int, H a = some (.lst [.int x, .int y]) ∧ 0 ≤ x ∧ 0 ≤ y ∧ y < 2147483647
  | .dic kvs => ∃ vs : List (Key × V), H a = some (.dK vs) ∧ KvOk K F kvs vs
  | .dicL kvs o => H a = some o ∧ ∃ (od : Obj) (vs : List (Key × V)), o = .frz od (.dK vs) ∧ KvOk K F kvs vs
  | .exc cls fs => ∃ o d, H a = some o ∧ IsX a cls d o ∧ XdR K F fs d
  | .ins C fs => ∃ dx vs, H a = some (.ins C dx vs) ∧ FsOk K F fs vs
/-- what is known of F and P all the while: it bears more of both -/
structure MX where
  rel : Hp → Hp → Prop
  mono : ∀ {F F' P P' : Hp}, rel F P → Same F F' → Same P P' → rel F' P'
def MT : MX := ⟨fun _ _ => True, fun _ _ _ => trivial⟩
variable {M : MX}
/-- F: what never changes; O: what is owned; P: what stands aside -/
structure Gd (M : MX) (K : PySem.W.Frag) (F : Hp) (O : Ow) (P : Hp) (H : Hp) : Prop where
  fz : Same F H
  ow : ∀ a c, O a = some c → F a = none ∧ P a = none ∧ CellOk K F H a c
  as : ∀ a o, P a = some o → F a = none ∧ H a = some o
  rl : M.rel F P

theorem CellOk.some {K : PySem.W.Frag} {F H : Hp} {a : Addr} {c : Cell} (h : CellOk K F H a c) : ∃ o, H a = some o := by
  cases c with
  | lst ds => obtain ⟨vs, h, _⟩ := h; exact ⟨_, h⟩
  | pool => obtain ⟨x, y, h, _⟩ := h; exact ⟨_, h⟩
  | dic kvs => obtain ⟨vs, h, _⟩ := h; exact ⟨_, h⟩
  | dicL kvs o => exact ⟨_, h.1⟩
  | exc cls fs => obtain ⟨o, d, h, _⟩ := h; exact ⟨_, h⟩
  | ins C fs => obtain ⟨dx, vs, h, _⟩ := h; exact ⟨_, h⟩
theorem CellOk.mono {K : PySem.W.Frag} {F F' H H' : Hp} {a : Addr} {c : Cell} (h : CellOk K F H a c) (s : Same F F') (e : H' a = H a) : CellOk K F' H' a c := by
  cases c with
  | lst ds => obtain ⟨vs, h, r⟩ := h; exact ⟨vs, e.trans h, r.mono s⟩
  | pool => obtain ⟨x, y, h, r⟩ := h; exact ⟨x, y, e.trans h, r⟩
  | dic kvs => obtain ⟨vs, h, r⟩ := h; exact ⟨vs, e.trans h, r.mono s⟩
  | dicL kvs o => obtain ⟨h, od, vs, r1, r2⟩ := h; exact ⟨e.trans h, od, vs, r1, r2.mono s⟩
  | exc cls fs => obtain ⟨o, d, h, r1, r2⟩ := h; exact ⟨o, d, e.trans h, r1, r2.mono s⟩
  | ins C fs => obtain ⟨dx, vs, h, r⟩ := h; exact ⟨dx, vs, e.trans h, r.mono s⟩

section
variable {K : PySem.W.Frag} {F P H : Hp} {O : Ow} {p : Addr} {o : HO}
theorem Gd.freeF (g : Gd M K F O P H) (h : H p = none) : F p = none := g.fz.free h
theorem Gd.freeO (g : Gd M K F O P H) (h : H p = none) : O p = none := by
  cases e : O p with
  | none => rfl
  | some c =>
    obtain ⟨u, q⟩ := (g.ow p c e).2.2.some
    rw [h] at q; cases q
theorem Gd.freeP (g : Gd M K F O P H) (h : H p = none) : P p = none := by
  cases e : P p with
  | none => rfl
  | some c =>
    have q := (g.as p c e).2
    rw [h] at q; cases q
theorem same_upd {H : Hp} {p : Addr} {o : HO} (h : H p = none) : Same H (upd H p o) := fun b x e => by
  rw [upd_ne (ne_of_none e h)]; exact e
theorem Same.upd2 {F H : Hp} {p : Addr} {o : HO} (s : Same F H) : Same (upd F p o) (upd H p o) := fun b x e => by
  unfold upd at e ⊢
  split
  · rename_i q; rw [if_pos q] at e; exact e
  · rename_i q; rw [if_neg q] at e; exact s b x e
/-- a new thing that never changes -/
theorem Gd.new (g : Gd M K F O P H) (h : H p = none) : Gd M K (upd F p o) O P (upd H p o) := by
  have hF := g.freeF h
  have hO := g.freeO h
  have hP := g.freeP h
  refine ⟨Same.upd2 g.fz, fun a c e => ?_, fun a u e => ?_, M.mono g.rl (same_upd hF) (Same.refl _)⟩
  · have ne : a ≠ p := fun q => by rw [q, hO] at e; cases e
    obtain ⟨h1, h2, h3⟩ := g.ow a c e
    exact ⟨(upd_ne ne).trans h1, h2, h3.mono (same_upd hF) (upd_ne ne)⟩
  · have ne : a ≠ p := fun q => by rw [q, hP] at e; cases e
    obtain ⟨h1, h2⟩ := g.as a u e
    exact ⟨(upd_ne ne).trans h1, (upd_ne ne).trans h2⟩
/-- a thing of the heap that nothing speaks of -/
theorem Gd.skip (g : Gd M K F O P H) (h : H p = none) : Gd M K F O P (upd H p o) := by
  have hO := g.freeO h
  have hP := g.freeP h
  refine ⟨fun b x e => (same_upd h) b x (g.fz b x e), fun a c e => ?_, fun a u e => ?_, g.rl⟩
  · have ne : a ≠ p := fun q => by rw [q, hO] at e; cases e
    obtain ⟨h1, h2, h3⟩ := g.ow a c e
    exact ⟨h1, h2, h3.mono (Same.refl _) (upd_ne ne)⟩
  · have ne : a ≠ p := fun q => by rw [q, hP] at e; cases e
    obtain ⟨h1, h2⟩ := g.as a u e
    exact ⟨h1, (upd_ne ne).trans h2⟩
/-- a new owned cell -/
theorem Gd.newO (g : Gd M K F O P H) (h : H p = none) {c : Cell} (hc : CellOk K F (upd H p o) p c) : Gd M K F (updO O p c) P (upd H p o) := by
  have hF := g.freeF h
  have g' := g.skip (o := o) h
  refine ⟨g'.fz, fun a d e => ?_, g'.as, g'.rl⟩
  by_cases q : a = p
  · subst q
    rw [updO_same] at e; cases e
    exact ⟨hF, g.freeP h, hc⟩
  · rw [updO_ne q] at e
    exact g'.ow a d e
/-- an owned cell changes -/
theorem Gd.setO (g : Gd M K F O P H) {c0 : Cell} (h : O p = some c0) {c : Cell} (hc : CellOk K F (upd H p o) p c) : Gd M K F (updO O p c) P (upd H p o) := by
  obtain ⟨hF, hP, _⟩ := g.ow p c0 h
  refine ⟨fun b x e => ?_, fun a d e => ?_, fun a u e => ?_, g.rl⟩
  · have ne : b ≠ p := fun q => by rw [q, hF] at e; cases e
    rw [upd_ne ne]; exact g.fz b x e
  · by_cases q : a = p
    · subst q
      rw [updO_same] at e; cases e
      exact ⟨hF, hP, hc⟩
    · rw [updO_ne q] at e
      obtain ⟨h1, h2, h3⟩ := g.ow a d e
      exact ⟨h1, h2, h3.mono (Same.refl _) (upd_ne q)⟩
  · have ne : a ≠ p := fun q => by rw [q, hP] at e; cases e
    obtain ⟨h1, h2⟩ := g.as a u e
    exact ⟨h1, (upd_ne ne).trans h2⟩
/-- an owned list is owned no more: it never changes from now on -/
theorem Gd.freeze (g : Gd M K F O P H) {ds : List D} (h : O p = some (.lst ds)) : ∃ F', Same F F' ∧ Gd M K F' (delO O p) P H ∧ Rep K F' (.lst ds) (.ref p) := by
  obtain ⟨hF, hP, vs, hH, hr⟩ := g.ow p _ h
  have s : Same F (upd F p (.lst vs)) := same_upd hF
  refine ⟨upd F p (.lst vs), s, ⟨fun b x e => ?_, fun a c e => ?_, fun a u e => ?_, M.mono g.rl s (Same.refl _)⟩, ?_⟩
  · by_cases q : b = p
    · subst q; rw [upd_same] at e; cases e; exact hH
    · rw [upd_ne q] at e; exact g.fz b x e
  · unfold delO at e
    by_cases q : a = p
    · rw [if_pos q] at e; cases e
    · rw [if_neg q] at e
      obtain ⟨h1, h2, h3⟩ := g.ow a c e
      exact ⟨(upd_ne q).trans h1, h2, h3.mono s rfl⟩
  · have q : a ≠ p := fun z => by rw [z, hP] at e; cases e
    obtain ⟨h1, h2⟩ := g.as a u e
    exact ⟨(upd_ne q).trans h1, h2⟩
  · simp only [Rep]
    exact ⟨p, vs, rfl, upd_same, hr.mono s⟩
/-- an owned cell is forgotten -/
theorem Gd.drop (g : Gd M K F O P H) : Gd M K F (delO O p) P H := by
  refine ⟨g.fz, fun a c e => ?_, g.as, g.rl⟩
  unfold delO at e
  by_cases q : a = p
  · rw [if_pos q] at e; cases e
  · rw [if_neg q] at e; exact g.ow a c e
end

/-! ### environments -/
def EnvOk (K : PySem.W.Frag) (F : Hp) (ρ : DEnv) (σ : St) : Prop := ρ.length = σ.length ∧ ∀ (i : Nat) (d : D), ρ[i]? = some (some d) → ∃ v, σ[i]? = some (some v) ∧ Rep K F d v
section
variable {K : PySem.W.Frag} {F F' : Hp} {ρ : DEnv} {σ : St}
theorem EnvOk.mono (h : EnvOk K F ρ σ) (s : Same F F') : EnvOk K F' ρ σ := ⟨h.1, fun i d e => let ⟨v, q, r⟩ := h.2 i d e; ⟨v, q, r.mono s⟩⟩
theorem EnvOk.set (h : EnvOk K F ρ σ) {d : D} {v : V} (r : Rep K F d v) (i : Nat) : EnvOk K F (ρ.set i (some d)) (σ.set i (some v)) := by
  refine ⟨by rw [List.length_set, List.length_set, h.1], fun j e q => ?_⟩
  by_cases c : i = j
  · subst c
    by_cases hl : i < ρ.length
    · rw [List.getElem?_set_self hl] at q
      cases q
      exact ⟨v, by rw [List.getElem?_set_self (h.1 ▸ hl)], r⟩
    · rw [List.getElem?_eq_none (by rw [List.length_set]; omega)] at q; cases q
  · rw [List.getElem?_set_ne c] at q ⊢
    exact h.2 j e q
theorem EnvOk.wipe (h : EnvOk K F ρ σ) (i : Nat) : EnvOk K F (ρ.set i none) (σ.set i none) := by
  refine ⟨by rw [List.length_set, List.length_set, h.1], fun j e q => ?_⟩
  by_cases c : i = j
  · subst c
    by_cases hl : i < ρ.length
    · rw [List.getElem?_set_self hl] at q; cases q
    · rw [List.getElem?_eq_none (by rw [List.length_set]; omega)] at q; cases q
  · rw [List.getElem?_set_ne c] at q ⊢
    exact h.2 j e q
theorem envOk_start : ∀ {ds : List D} {vs : List V} (n : Nat), RepAll K F ds vs → EnvOk K F (ds.map some ++ List.replicate n none) (vs.map some ++ List.replicate n none) := by
  intro ds vs n h
  have hl := h.length
  refine ⟨by simp [hl], fun i d e => ?_⟩
  by_cases c : i < ds.length
  · rw [List.getElem?_append_left (by simpa using c), List.getElem?_map] at e
    obtain ⟨d', e1, e2⟩ := Option.map_eq_some_iff.mp e
    cases e2
    obtain ⟨v, h1, h2⟩ := h.get e1
    refine ⟨v, ?_, h2⟩
    rw [List.getElem?_append_left (by simpa [← hl] using c), List.getElem?_map, h1]; rfl
  · rw [List.getElem?_append_right (by simpa using c)] at e
    rw [List.getElem?_replicate] at e
    split at e <;> cases e
end

/-! ### readings over data, lifted -/
def PostE (M : MX) (K : PySem.W.Frag) (F P : Hp) (R : VD) (Q : VK) : Prop := ∀ d O' F' H' v, R d O' → Same F F' → Gd M K F' O' P H' → Rep K F' d v → Q v H'
def PostT (M : MX) (K : PySem.W.Frag) (F P : Hp) (R : Bool → Ow → Prop) (Q : Bool → Hp → Prop) : Prop := ∀ b O' F' H', R b O' → Same F F' → Gd M K F' O' P H' → Q b H'
def PostA (M : MX) (K : PySem.W.Frag) (F P : Hp) (R : List D → Ow → Prop) (Q : List V → Hp → Prop) : Prop := ∀ ds O' F' H' vs, R ds O' → Same F F' → Gd M K F' O' P H' → RepAll K F' ds vs → Q vs H'
def liftE (M : MX) (K : PySem.W.Frag) (f : FE) : TE := fun σ H Q => ∃ F O P ρ R, Gd M K F O P H ∧ EnvOk K F ρ σ ∧ f ρ O R ∧ PostE M K F P R Q
def liftT (M : MX) (K : PySem.W.Frag) (f : FT) : TT := fun σ H Q => ∃ F O P ρ R, Gd M K F O P H ∧ EnvOk K F ρ σ ∧ f ρ O R ∧ PostT M K F P R Q
def liftA (M : MX) (K : PySem.W.Frag) (f : FA) : TA := fun σ H Q => ∃ F O P ρ R, Gd M K F O P H ∧ EnvOk K F ρ σ ∧ f ρ O R ∧ PostA M K F P R Q
abbrev DE (M : MX) (X : Cx) (e : Expr) (f : FE) : Prop := PE X e (liftE M X.K f)
abbrev DT (M : MX) (X : Cx) (e : Expr) (f : FT) : Prop := PT X e (liftT M X.K f)
abbrev DA (M : MX) (X : Cx) (es : List Expr) (f : FA) : Prop := PA X es (liftA M X.K f)

theorem peMono {X : Cx} {e : Expr} {t t' : TE} (h : PE X e t) (imp : ∀ σ H Q, t' σ H Q → t σ H Q) : PE X e t' := ⟨fun pins s σ H Q I q => h.run pins s σ H Q I (imp σ H Q q)⟩
theorem ptMono {X : Cx} {e : Expr} {t t' : TT} (h : PT X e t) (imp : ∀ σ H Q, t' σ H Q → t σ H Q) : PT X e t' := ⟨fun pins s σ H Q I q => h.run pins s σ H Q I (imp σ H Q q)⟩
theorem pwMono {X : Cx} {e : Expr} {t t' : TT} (h : PW X e t) (imp : ∀ σ H Q, t' σ H Q → t σ H Q) : PW X e t' := ⟨fun whole pins s σ H Q I q => h.run whole pins s σ H Q I (imp σ H Q q)⟩
theorem paMono {X : Cx} {es : List Expr} {t t' : TA} (h : PA X es t) (imp : ∀ σ H Q, t' σ H Q → t σ H Q) : PA X es t' := ⟨fun pos pins s σ H Q I q => h.run pos pins s σ H Q I (imp σ H Q q)⟩
theorem psMono {X : Cx} {st : Stmt} {t t' : TS} (h : PS X st t) (imp : ∀ D σ H, t' D σ H → t D σ H) : PS X st t' := ⟨fun pins s σ H D I q => h.run pins s σ H D I (imp D σ H q)⟩
theorem pssMono {X : Cx} {st : List Stmt} {t t' : TS} (h : PSs X st t) (imp : ∀ D σ H, t' D σ H → t D σ H) : PSs X st t' := ⟨fun pins s σ H D I q => h.run pins s σ H D I (imp D σ H q)⟩

section
variable {X : Cx} {a b c e : Expr} {es : List Expr} {fa fb fc : FE} {pos : Pos}

/-! ### names and constants -/
def envGet (o : Option (Option D)) (O : Ow) (Q : VD) : Prop := match o with
  | some (some d) => Q d O
  | _ => False
theorem envGet_s {d : D} {O : Ow} {Q : VD} : envGet (some (some d)) O Q = Q d O := rfl
def fVar (i : Nat) : FE := fun ρ O Q => envGet ρ[i]? O Q
def fC (d : D) : FE := fun _ O Q => Q d O
theorem de_var (i : Nat) {x : Str} (hN : X.N[i]? = some x := by rfl) (hv : Vis X.env.scope x := by first | exact Or.inl rfl | exact Or.inr (Or.inl rfl) | exact Or.inr (Or.inr rfl)) (hd : (x == ("__debug__" : Str)) = false := by decide)
    (hcd : (x == ("__classdict__" : Str)) = false := by decide) : DE M X (.Name x pos) (fVar i) := by
  refine peMono (pe_var hN hv hd hcd) fun σ H Q h => ?_
  obtain ⟨F, O, P, ρ, R, g, en, q, po⟩ := h
  unfold fVar envGet at q
  split at q
  · rename_i d e
    obtain ⟨v, e', r⟩ := en.2 i d e
    exact ⟨v, e', po d O F H v q (Same.refl _) g r⟩
  · exact q.elim
/-- a constant: what is the same everywhere -/
theorem de_const {t : TE} {d : D} {v : V} (h : PE X e t) (ht : ∀ σ H Q, Q v H → t σ H Q) (hr : ∀ F, Rep X.K F d v) : DE M X e (fC d) := by
  refine peMono h fun σ H Q h => ?_
  obtain ⟨F, O, P, ρ, R, g, en, q, po⟩ := h
  exact ht σ H Q (po d O F H v q (Same.refl _) g (hr F))
theorem de_int {i : Int} {j : Nat} : DE M X (.Constant (.int i) j pos) (fC (.int i)) := de_const pe_int (fun _ _ _ q => q) fun _ => by simp only [Rep]
theorem de_bl {i : Bool} {j : Nat} : DE M X (.Constant (.bool i) j pos) (fC (.bl i)) := de_const pe_bl (fun _ _ _ q => q) fun _ => by simp only [Rep]
theorem de_non {j : Nat} : DE M X (.Constant .none j pos) (fC .non) := de_const pe_non (fun _ _ _ q => q) fun _ => by simp only [Rep]
theorem de_str {x : Str} {j : Nat} : DE M X (.Constant (.str x) j pos) (fC (.str x)) := de_const pe_str (fun _ _ _ q => q) fun _ => by simp only [Rep]
theorem de_glob {x : Str} {d : D} {v : V} {u : Value} (hg : Gl X x) (hm : X.mg x = some u) (r : RelV v u) (hr : ∀ F, Rep X.K F d v) (hd : (x == ("__debug__" : Str)) = false := by decide) : DE M X (.Name x pos) (fC d) :=
  de_const (pe_glob hg hm r hd) (fun _ _ _ q => q) hr
theorem de_bltn {x : Str} {d : D} {v : V} {u : Value} (hg : Gl X x) (hm : X.mg x = none) (hv : bootBuiltins x = some u) (r : RelV v u) (hr : ∀ F, Rep X.K F d v) (hn : x ≠ "__name__" := by decide) (hd : (x == ("__debug__" : Str)) = false := by decide) : DE M X (.Name x pos) (fC d) :=
  de_const (pe_bltn hg hm hv r hn hd) (fun _ _ _ q => q) hr

/-! ### operators -/
abbrev R2D := D → D → Ow → VD → Prop
abbrev R1D := D → Ow → VD → Prop
def liftR2 (M : MX) (K : PySem.W.Frag) (r : R2D) : R2 := fun x y H Q => ∃ F O P dx dy R, Gd M K F O P H ∧ Rep K F dx x ∧ Rep K F dy y ∧ r dx dy O R ∧ PostE M K F P R Q
def liftRA (M : MX) (K : PySem.W.Frag) (r : List D → Ow → VD → Prop) : List V → Hp → VK → Prop := fun xs H Q => ∃ F O P ds R, Gd M K F O P H ∧ RepAll K F ds xs ∧ r ds O R ∧ PostE M K F P R Q
def fOp (r : R2D) (fa fb : FE) : FE := fun ρ O Q => fa ρ O fun x O1 => fb ρ O1 fun y O2 => r x y O2 Q
theorem fOp_lift {r : R2D} : ∀ σ H Q, liftE M X.K (fOp r fa fb) σ H Q → tOp (liftR2 M X.K r) (liftE M X.K fa) (liftE M X.K fb) σ H Q := by
  intro σ H Q h
  obtain ⟨F, O, P, ρ, R, g, en, q, po⟩ := h
  refine ⟨F, O, P, ρ, _, g, en, q, fun x O1 F1 H1 v q1 s1 g1 r1 => ?_⟩
  refine ⟨F1, O1, P, ρ, _, g1, en.mono s1, q1, fun y O2 F2 H2 w q2 s2 g2 r2 => ?_⟩
  exact ⟨F2, O2, P, x, y, R, g2, r1.mono s2, r2, q2, fun d O' F' H' z q3 s3 g3 r3 => po d O' F' H' z q3 (s1.trans (s2.trans s3)) g3 r3⟩
abbrev OpD (M : MX) (X : Cx) (f : Value → Value → Sem Value) (r : R2D) : Prop := OpR X f (liftR2 M X.K r)
theorem de_op {op : Operator} {r : R2D} (ho : OpD M X (binaryOp op) r) (ha : DE M X a fa) (hb : DE M X b fb) : DE M X (.BinOp a op b pos) (fOp r fa fb) := peMono (pe_op ho ha hb) fOp_lift
theorem de_cmp {op : CmpOp} {r : R2D} (ho : OpD M X (compareOp op) r) (ha : DE M X a fa) (hb : DE M X b fb) (hm : behindInMarks op b = false) : DE M X (.Compare a [op] [b] pos) (fOp r fa fb) := peMono (pe_cmpR ho ha hb hm) fOp_lift
/-- a value as a test: it must be a bool -/
def fTest (f : FE) : FT := fun ρ O Q => f ρ O fun d O1 => ∃ k, d = .bl k ∧ Q k O1
theorem tTest_lift {f : FE} {t : TE} (hl : ∀ σ H Q, liftE M X.K f σ H Q → t σ H Q) : ∀ σ H Q, liftT M X.K (fTest f) σ H Q → tTest t σ H Q := by
  intro σ H Q h
  obtain ⟨F, O, P, ρ, R, g, en, q, po⟩ := h
  refine hl σ H _ ⟨F, O, P, ρ, _, g, en, q, fun d O' F' H' v q1 s1 g1 r1 => ?_⟩
  obtain ⟨k, rfl, q2⟩ := q1
  simp only [Rep] at r1
  exact ⟨k, r1, po k O' F' H' q2 s1 g1⟩
theorem dt_cmp {op : CmpOp} {r : R2D} (ho : OpD M X (compareOp op) r) (ha : DE M X a fa) (hb : DE M X b fb) (hm : behindInMarks op b = false) : DT M X (.Compare a [op] [b] pos) (fTest (fOp r fa fb)) :=
  ptMono (pt_cmpR ho ha hb hm) (tTest_lift fOp_lift)
theorem dt_val (h : DE M X e fa) (he : ∀ whole, isTrue e X.env whole = (do let v ← whole; standAt e.pos; holding [v] (truthy v)) := by intro _; rfl) : DT M X e (fTest fa) :=
  ptMono (pt_val h he) (tTest_lift fun _ _ _ q => q)
/-- a op1 b op2 c -/
def fChain (r r' : R2D) (fa fb fc : FE) : FE := fun ρ O Q => fa ρ O fun x O1 => fb ρ O1 fun y O2 => r x y O2 fun z O3 => ∃ k, z = .bl k ∧ (if k = true then fc ρ O3 fun w O4 => r' y w O4 Q else Q (.bl false) O3)
/-! ### and, or, not -/
variable {tA tB' : FT} {rest : List Expr}
def fAnd (t u : FT) : FT := fun ρ O Q => t ρ O fun c O1 => if c = true then u ρ O1 Q else Q false O1
def fOr (t u : FT) : FT := fun ρ O Q => t ρ O fun c O1 => if c = true then Q true O1 else u ρ O1 Q
def fNot (t : FT) : FT := fun ρ O Q => t ρ O fun c O1 => Q (!c) O1
abbrev DW (M : MX) (X : Cx) (e : Expr) (f : FT) : Prop := PW X e (liftT M X.K f)
theorem fAnd_lift : ∀ σ H Q, liftT M X.K (fAnd tA tB') σ H Q → tAnd (liftT M X.K tA) (liftT M X.K tB') σ H Q := by
  intro σ H Q h
  obtain ⟨F, O, P, ρ, R, g, en, q, po⟩ := h
  refine ⟨F, O, P, ρ, _, g, en, q, fun k O1 F1 H1 q1 s1 g1 => ?_⟩
  cases k with
  | true =>
    rw [if_pos rfl] at q1 ⊢
    exact ⟨F1, O1, P, ρ, R, g1, en.mono s1, q1, fun b O' F' H' q2 s2 g2 => po b O' F' H' q2 (s1.trans s2) g2⟩
  | false =>
    rw [if_neg Bool.false_ne_true] at q1 ⊢
    exact po _ O1 F1 H1 q1 s1 g1
theorem fOr_lift : ∀ σ H Q, liftT M X.K (fOr tA tB') σ H Q → tOr (liftT M X.K tA) (liftT M X.K tB') σ H Q := by
  intro σ H Q h
  obtain ⟨F, O, P, ρ, R, g, en, q, po⟩ := h
  refine ⟨F, O, P, ρ, _, g, en, q, fun k O1 F1 H1 q1 s1 g1 => ?_⟩
  cases k with
  | false =>
    rw [if_neg Bool.false_ne_true] at q1 ⊢
    exact ⟨F1, O1, P, ρ, R, g1, en.mono s1, q1, fun b O' F' H' q2 s2 g2 => po b O' F' H' q2 (s1.trans s2) g2⟩
  | true =>
    rw [if_pos rfl] at q1 ⊢
    exact po _ O1 F1 H1 q1 s1 g1
theorem dw_and1 (ha : DT M X a tA) : DW M X (.BoolOp .And [a] pos) tA := pw_and1 ha
theorem dw_or1 (ha : DT M X a tA) : DW M X (.BoolOp .Or [a] pos) tA := pw_or1 ha
theorem dw_and (ha : DT M X a tA) (hb : DW M X (.BoolOp .And (b :: rest) pos) tB') : DW M X (.BoolOp .And (a :: b :: rest) pos) (fAnd tA tB') := pwMono (pw_and ha hb) fAnd_lift
theorem dw_or (ha : DT M X a tA) (hb : DW M X (.BoolOp .Or (b :: rest) pos) tB') : DW M X (.BoolOp .Or (a :: b :: rest) pos) (fOr tA tB') := pwMono (pw_or ha hb) fOr_lift
theorem dt_of (h : DW M X e tA) : DT M X e tA := h.pt
theorem dt_not (ha : DT M X a tA) : DT M X (.UnaryOp .Not a pos) (fNot tA) := by
  refine ptMono (pt_not ha) fun σ H Q h => ?_
  obtain ⟨F, O, P, ρ, R, g, en, q, po⟩ := h
  exact ⟨F, O, P, ρ, _, g, en, q, fun k O1 F1 H1 q1 s1 g1 => po _ O1 F1 H1 q1 s1 g1⟩
/-- .. as values (bools) -/
def fAndV (fa fb : FE) : FE := fun ρ O Q => fa ρ O fun x O1 => ∃ c, x = .bl c ∧ if c = true then fb ρ O1 Q else Q (.bl false) O1
def fOrV (fa fb : FE) : FE := fun ρ O Q => fa ρ O fun x O1 => ∃ c, x = .bl c ∧ if c = true then Q (.bl true) O1 else fb ρ O1 Q
def fNotV (fa : FE) : FE := fun ρ O Q => fa ρ O fun x O1 => ∃ c, x = .bl c ∧ Q (.bl (!c)) O1
theorem de_one {op} (h : DE M X a fa) : DE M X (.BoolOp op [a] pos) fa := pe_one h
/-- a if t else b -/
def fIf (t : FT) (fa fb : FE) : FE := fun ρ O Q => t ρ O fun c O1 => if c = true then fa ρ O1 Q else fb ρ O1 Q
/-! ### argument lists, displays -/
def fNil : FA := fun _ O Q => Q [] O
def fCons (fa : FE) (fr : FA) : FA := fun ρ O Q => fa ρ O fun x O1 => fr ρ O1 fun xs O2 => Q (x :: xs) O2
variable {fr : FA}
theorem da_nil : DA M X [] fNil := paMono pa_nil fun σ H Q h => by
  obtain ⟨F, O, P, ρ, R, g, en, q, po⟩ := h
  exact po [] O F H [] q (Same.refl _) g .nil
theorem da_cons (ha : DE M X e fa) (hr : DA M X es fr) (hs : starEach (e :: es) X.env = (false, eval e X.env) :: starEach es X.env := by rfl) : DA M X (e :: es) (fCons fa fr) := by
  refine paMono (pa_cons ha hr hs) fun σ H Q h => ?_
  obtain ⟨F, O, P, ρ, R, g, en, q, po⟩ := h
  refine ⟨F, O, P, ρ, _, g, en, q, fun x O1 F1 H1 v q1 s1 g1 r1 => ?_⟩
  exact ⟨F1, O1, P, ρ, _, g1, en.mono s1, q1, fun xs O2 F2 H2 vs q2 s2 g2 r2 => po _ O2 F2 H2 _ q2 (s1.trans s2) g2 (.cons (r1.mono s2) r2)⟩
def fTup (fr : FA) : FE := fun ρ O Q => fr ρ O fun xs O1 => xs.length ≤ sizeLine ∧ Q (.tup xs) O1
theorem de_tup {x1} (h : DA M X es fr) : DE M X (.Tuple es x1 pos) (fTup fr) := by
  refine peMono (pe_tup h) fun σ H Q h => ?_
  obtain ⟨F, O, P, ρ, R, g, en, q, po⟩ := h
  refine ⟨F, O, P, ρ, _, g, en, q, fun xs O1 F1 H1 vs q1 s1 g1 r1 => ?_⟩
  refine ⟨by rw [← r1.length]; exact q1.1, fun p hp => ?_⟩
  have hF := g1.freeF hp
  refine po (.tup xs) O1 (upd F1 p (.tup vs)) _ _ q1.2 (s1.trans (same_upd hF)) (g1.new hp) ?_
  simp only [Rep]
  exact ⟨p, vs, rfl, .inl (.inl upd_same), r1.mono (same_upd hF)⟩
/-- a list that never changes -/
def fLst (fr : FA) : FE := fun ρ O Q => fr ρ O fun xs O1 => xs.length ≤ sizeLine ∧ Q (.lst xs) O1
theorem de_lst (h : DA M X es fr) : DE M X (.List es pos) (fLst fr) := by
  refine peMono (pe_lst h) fun σ H Q h => ?_
  obtain ⟨F, O, P, ρ, R, g, en, q, po⟩ := h
  refine ⟨F, O, P, ρ, _, g, en, q, fun xs O1 F1 H1 vs q1 s1 g1 r1 => ?_⟩
  refine ⟨by rw [← r1.length]; exact q1.1, fun p hp => ?_⟩
  have hF := g1.freeF hp
  refine po (.lst xs) O1 (upd F1 p (.lst vs)) _ _ q1.2 (s1.trans (same_upd hF)) (g1.new hp) ?_
  simp only [Rep]
  exact ⟨p, vs, rfl, upd_same, r1.mono (same_upd hF)⟩
/-- a list that is owned -/
def fLstO (fr : FA) : FE := fun ρ O Q => fr ρ O fun xs O1 => xs.length ≤ sizeLine ∧ ∀ p, O1 p = none → Q (.ref p) (updO O1 p (.lst xs))
theorem de_lstO (h : DA M X es fr) : DE M X (.List es pos) (fLstO fr) := by
  refine peMono (pe_lst h) fun σ H Q h => ?_
  obtain ⟨F, O, P, ρ, R, g, en, q, po⟩ := h
  refine ⟨F, O, P, ρ, _, g, en, q, fun xs O1 F1 H1 vs q1 s1 g1 r1 => ?_⟩
  refine ⟨by rw [← r1.length]; exact q1.1, fun p hp => ?_⟩
  exact po (.ref p) _ F1 _ _ (q1.2 p (g1.freeO hp)) s1 (g1.newO hp ⟨vs, upd_same, r1⟩) (by simp only [Rep])
/-- the law's pool: two numbers that are not negative -/
def rPool (xs : List D) (O : Ow) (Q : VD) : Prop := match xs with
  | [.int x, .int y] => 0 ≤ x ∧ 0 ≤ y ∧ y < 2147483647 ∧ ∀ p, O p = none → Q (.ref p) (updO O p .pool)
  | _ => False
def fPool (fr : FA) : FE := fun ρ O Q => fr ρ O fun xs O1 => rPool xs O1 Q
theorem de_pool (h : DA M X es fr) : DE M X (.List es pos) (fPool fr) := by
  refine peMono (pe_lst h) fun σ H Q h => ?_
  obtain ⟨F, O, P, ρ, R, g, en, q, po⟩ := h
  refine ⟨F, O, P, ρ, _, g, en, q, fun xs O1 F1 H1 vs q1 s1 g1 r1 => ?_⟩
  unfold rPool at q1
  split at q1
  · simp only [RepAll, Rep] at r1
    obtain ⟨_, _, rfl, rfl, _, _, rfl, rfl, rfl⟩ := r1
    refine ⟨show 2 ≤ sizeLine by decide, fun p hp => ?_⟩
    exact po (.ref p) _ F1 _ _ (q1.2.2.2 p (g1.freeO hp)) s1 (g1.newO hp ⟨_, _, upd_same, q1.1, q1.2.1, q1.2.2.1⟩) (by simp only [Rep])
  · exact q1.elim
end
end Kf
namespace Kf
open PySem PySem.Spec L2
open PyProof.Rows hiding St
variable {M : MX}

/-! ### data that is told apart by == -/
mutual
def toPy : D → PyData
  | .non => .none
  | .bl b => .bool b
  | .int i => .int i
  | .str x => .str x
  | .tup ds => .tuple (toPys ds)
  | .lst ds => .list (toPys ds)
  | .ref _ => .dict []
  | .ty _ => .dict []
  | .scr ns => .list (ns.map .int)
  | .edic => .dict []
def toPys : List D → List PyData
  | [] => []
  | d :: ds => toPy d :: toPys ds
end
mutual
def isPy : D → Bool
  | .non => true
  | .bl _ => true
  | .int _ => true
  | .str x => PyData.strOk x
  | .tup ds => isPys ds
  | .lst ds => isPys ds
  | .ref _ => false
  | .ty _ => false
  | .scr _ => false
  | .edic => false
def isPys : List D → Bool
  | [] => true
  | d :: ds => isPy d && isPys ds
end
theorem toPys_map : ∀ ds : List D, toPys ds = ds.map toPy
  | [] => rfl
  | d :: ds => by rw [toPys, toPys_map ds, List.map_cons]
theorem isPys_all : ∀ ds : List D, isPys ds = ds.all isPy
  | [] => rfl
  | d :: ds => by rw [isPys, isPys_all ds, List.all_cons]
mutual
theorem isPy_lay : ∀ d : D, isPy d = true → (toPy d).canLay0 = true
  | .non, _ => by simp only [toPy, PyData.canLay0]
  | .bl _, _ => by simp only [toPy, PyData.canLay0]
  | .int _, _ => by simp only [toPy, PyData.canLay0]
  | .str x, h => by simp only [isPy] at h; simp only [toPy, PyData.canLay0]; exact h
  | .tup ds, h => by simp only [isPy] at h; simp only [toPy, PyData.canLay0]; exact isPys_lay ds h
  | .lst ds, h => by simp only [isPy] at h; simp only [toPy, PyData.canLay0]; exact isPys_lay ds h
  | .ref _, h => by simp only [isPy] at h; cases h
  | .ty _, h => by simp only [isPy] at h; cases h
  | .scr _, h => by simp only [isPy] at h; cases h
  | .edic, h => by simp only [isPy] at h; cases h
theorem isPys_lay : ∀ ds : List D, isPys ds = true → PyData.canLayAll0 (toPys ds) = true
  | [], _ => by simp only [toPys, PyData.canLayAll0]
  | d :: ds, h => by
    simp only [isPys, Bool.and_eq_true] at h
    simp only [toPys, PyData.canLayAll0, Bool.and_eq_true]
    exact ⟨isPy_lay d h.1, isPys_lay ds h.2⟩
end
/-- how deep a datum is -/
def dp (d : D) : Nat := (toPy d).depth
section
variable {K : PySem.W.Frag} {F H : Hp}
mutual
theorem Rep.dp (s : Same F H) : ∀ (d : D) (v : V), isPy d = true → Rep K F d v → Dp K H v (toPy d)
  | .non, v, _, r => by simp only [Rep] at r; subst r; simp only [toPy]; exact .non
  | .bl b, v, _, r => by simp only [Rep] at r; subst r; simp only [toPy]; exact .bl b
  | .int b, v, _, r => by simp only [Rep] at r; subst r; simp only [toPy]; exact .int b
  | .str b, v, _, r => by simp only [Rep] at r; subst r; simp only [toPy]; exact .str b
  | .tup ds, v, h, r => by
    simp only [isPy] at h
    simp only [Rep] at r
    obtain ⟨a, xs, rfl, r1, r2⟩ := r
    simp only [toPy]
    exact .tup (Same.seqT s r1) (RepAll.dp s ds xs h r2)
  | .lst ds, v, h, r => by
    simp only [isPy] at h
    simp only [Rep] at r
    obtain ⟨a, xs, rfl, r1, r2⟩ := r
    simp only [toPy]
    exact .lst (SqL.of (s _ _ r1)) (RepAll.dp s ds xs h r2)
  | .ref _, _, h, _ => by simp only [isPy] at h; cases h
  | .ty _, _, h, _ => by simp only [isPy] at h; cases h
  | .scr _, _, h, _ => by simp only [isPy] at h; cases h
  | .edic, _, h, _ => by simp only [isPy] at h; cases h
theorem RepAll.dp (s : Same F H) : ∀ (ds : List D) (vs : List V), isPys ds = true → RepAll K F ds vs → DpAll K H vs (toPys ds)
  | [], vs, _, r => by simp only [RepAll] at r; subst r; simp only [toPys]; exact .nil
  | d :: ds, vs, h, r => by
    simp only [isPys, Bool.and_eq_true] at h
    simp only [RepAll] at r
    obtain ⟨v, q, rfl, r1, r2⟩ := r
    simp only [toPys]
    exact .cons (Rep.dp s d v h.1 r1) (RepAll.dp s ds q h.2 r2)
end
end

/-! ### an owned list read -/
def deref (O : Ow) : D → D
  | .ref a => match O a with
    | some (.lst ds) => .lst ds
    | _ => .ref a
  | d => d
/-- as Rep, but a list may be owned -/
def RepH (K : PySem.W.Frag) (F H : Hp) (d : D) (v : V) : Prop := match d with
  | .lst ds => ∃ a xs, v = .ref a ∧ H a = some (.lst xs) ∧ RepAll K F ds xs
  | d => Rep K F d v
section
variable {K : PySem.W.Frag} {F P H : Hp} {O : Ow}
theorem Gd.deref (g : Gd M K F O P H) {d : D} {v : V} (r : Rep K F d v) : RepH K F H (deref O d) v := by
  cases d with
  | lst ds =>
    simp only [Rep] at r
    obtain ⟨a, xs, e, h1, h2⟩ := r
    exact ⟨a, xs, e, g.fz _ _ h1, h2⟩
  | ref a =>
    cases e : O a with
    | none =>
      have z : Kf.deref O (.ref a) = .ref a := by simp only [Kf.deref, e]
      rw [z]; exact r
    | some c =>
      cases c with
      | pool =>
        have z : Kf.deref O (.ref a) = .ref a := by simp only [Kf.deref, e]
        rw [z]; exact r
      | dic kvs =>
        have z : Kf.deref O (.ref a) = .ref a := by simp only [Kf.deref, e]
        rw [z]; exact r
      | dicL kvs o =>
        have z : Kf.deref O (.ref a) = .ref a := by simp only [Kf.deref, e]
        rw [z]; exact r
      | exc _ _ =>
        have z : Kf.deref O (.ref a) = .ref a := by simp only [Kf.deref, e]
        rw [z]; exact r
      | ins _ _ =>
        have z : Kf.deref O (.ref a) = .ref a := by simp only [Kf.deref, e]
        rw [z]; exact r
      | lst ds =>
        have z : Kf.deref O (.ref a) = .lst ds := by simp only [Kf.deref, e]
        rw [z]
        obtain ⟨_, _, vs, h1, h2⟩ := g.ow a _ e
        simp only [Rep] at r
        exact ⟨a, vs, r, h1, h2⟩
  | _ => exact r
theorem RepH.dp (s : Same F H) {d : D} {v : V} (h : isPy d = true) (r : RepH K F H d v) : Dp K H v (toPy d) := by
  cases d with
  | lst ds =>
    obtain ⟨a, xs, rfl, h1, h2⟩ := r
    simp only [isPy] at h
    simp only [toPy]
    exact .lst (SqL.of h1) (RepAll.dp s ds xs h h2)
  | _ => exact Rep.dp s _ v h r

/-- read through owned lists at any depth -/
def ddf (O : Ow) : Nat → D → D
  | 0, d => d
  | n + 1, .ref a => match O a with
    | some (.lst ds) => .lst (ds.map (ddf O n))
    | _ => .ref a
  | n + 1, .tup ds => .tup (ds.map (ddf O n))
  | n + 1, .lst ds => .lst (ds.map (ddf O n))
  | _ + 1, d => d
theorem repAll_map {f : D → D} {F' : Hp} (h : ∀ d v, Rep K F d v → Rep K F' (f d) v) : ∀ {ds : List D} {vs : List V}, RepAll K F ds vs → RepAll K F' (ds.map f) vs
  | [], _, r => by simp only [RepAll] at r; subst r; exact .nil
  | d :: ds, _, r => by
    simp only [RepAll] at r
    obtain ⟨v, w, rfl, r1, r2⟩ := r
    rw [List.map_cons]
    exact .cons (h d v r1) (repAll_map h r2)
theorem Gd.ddf (g : Gd M K F O P H) : ∀ (n : Nat) (d : D) (v : V), Rep K F d v → Rep K H (ddf O n d) v
  | 0, d, v, r => r.mono g.fz
  | n + 1, d, v, r => by
    cases d with
    | tup ds =>
      simp only [Rep] at r
      obtain ⟨a, xs, e, h1, h2⟩ := r
      simp only [Kf.ddf, Rep]
      exact ⟨a, xs, e, Same.seqT g.fz h1, repAll_map (Gd.ddf g n) h2⟩
    | lst ds =>
      simp only [Rep] at r
      obtain ⟨a, xs, e, h1, h2⟩ := r
      simp only [Kf.ddf, Rep]
      exact ⟨a, xs, e, g.fz _ _ h1, repAll_map (Gd.ddf g n) h2⟩
    | ref a =>
      cases e : O a with
      | none =>
        have z : Kf.ddf O (n + 1) (.ref a) = .ref a := by simp only [Kf.ddf, e]
        rw [z]; exact r.mono g.fz
      | some c =>
        cases c with
        | lst ds =>
          have z : Kf.ddf O (n + 1) (.ref a) = .lst (ds.map (Kf.ddf O n)) := by simp only [Kf.ddf, e]
          rw [z]
          obtain ⟨_, _, vs, h1, h2⟩ := g.ow a _ e
          simp only [Rep] at r ⊢
          exact ⟨a, vs, r, h1, repAll_map (Gd.ddf g n) h2⟩
        | _ =>
          have z : Kf.ddf O (n + 1) (.ref a) = .ref a := by simp only [Kf.ddf, e]
          rw [z]; exact r.mono g.fz
    | _ => simp only [Kf.ddf]; exact r.mono g.fz
/-! what holds no owned list is read as it is -/
theorem ddf_py {O : Ow} : ∀ (n : Nat) (d : D), isPy d = true → ddf O n d = d
  | 0, d, h => rfl
  | n + 1, d, h => by
    have hm : ∀ ds : List D, isPys ds = true → ds.map (ddf O n) = ds := fun ds hd => by
      rw [isPys_all, List.all_eq_true] at hd
      exact (List.map_congr_left fun x hx => ddf_py n x (hd x hx)).trans (List.map_id' ds)
    cases d with
    | tup ds => simp only [isPy] at h; simp only [ddf, hm ds h]
    | lst ds => simp only [isPy] at h; simp only [ddf, hm ds h]
    | ref a => simp [isPy] at h
    | _ => rfl
theorem ddf_deref {O : Ow} {n : Nat} {d : D} (h : isPy (deref O d) = true) : ddf O (n + 1) d = deref O d := by
  cases d with
  | ref a =>
    cases e : O a with
    | none =>
      have z : deref O (.ref a) = .ref a := by simp only [deref, e]
      rw [z] at h; simp [isPy] at h
    | some c =>
      cases c with
      | lst ds =>
        have z : deref O (.ref a) = .lst ds := by simp only [deref, e]
        have z2 : ddf O (n + 1) (.ref a) = .lst (ds.map (ddf O n)) := by simp only [ddf, e]
        rw [z] at h ⊢
        rw [z2]
        simp only [isPy] at h
        rw [isPys_all, List.all_eq_true] at h
        rw [(List.map_congr_left fun x hx => ddf_py n x (h x hx)).trans (List.map_id' ds)]
      | _ =>
        have z : deref O (.ref a) = .ref a := by simp only [deref, e]
        rw [z] at h; simp [isPy] at h
  | _ => exact ddf_py (n + 1) _ h
/-! ### ends -/
theorem PostE.at {R : VD} {Q : VK} {d : D} {v : V} (po : PostE M K F P R Q) (g : Gd M K F O P H) (h : R d O) (r : Rep K F d v) : Q v H := po d O F H v h (Same.refl _) g r
theorem PostE.lst {R : VD} {Q : VK} {ds : List D} {vs : List V} {p : Addr} (po : PostE M K F P R Q) (g : Gd M K F O P H) (h : R (.lst ds) O) (r : RepAll K F ds vs) (hp : H p = none) : Q (.ref p) (upd H p (.lst vs)) := by
  have hF := g.freeF hp
  refine po (.lst ds) O (upd F p (.lst vs)) _ _ h (same_upd hF) (g.new hp) ?_
  simp only [Rep]
  exact ⟨p, vs, rfl, upd_same, r.mono (same_upd hF)⟩
theorem PostE.tup {R : VD} {Q : VK} {ds : List D} {vs : List V} {p : Addr} (po : PostE M K F P R Q) (g : Gd M K F O P H) (h : R (.tup ds) O) (r : RepAll K F ds vs) (hp : H p = none) : Q (.ref p) (upd H p (.tup vs)) := by
  have hF := g.freeF hp
  refine po (.tup ds) O (upd F p (.tup vs)) _ _ h (same_upd hF) (g.new hp) ?_
  simp only [Rep]
  exact ⟨p, vs, rfl, .inl (.inl upd_same), r.mono (same_upd hF)⟩
theorem PostE.lstO {R : VD} {Q : VK} {ds : List D} {vs : List V} {p : Addr} (po : PostE M K F P R Q) (g : Gd M K F O P H) (h : ∀ p, O p = none → R (.ref p) (updO O p (.lst ds))) (r : RepAll K F ds vs) (hp : H p = none) : Q (.ref p) (upd H p (.lst vs)) :=
  po (.ref p) _ F _ _ (h p (g.freeO hp)) (Same.refl _) (g.newO hp ⟨vs, upd_same, r⟩) (by simp only [Rep])
theorem PostE.more {R : VD} {Q : VK} {F' : Hp} (po : PostE M K F P R Q) (s : Same F F') : PostE M K F' P R Q := fun d O' F2 H' v q s2 g r => po d O' F2 H' v q (s.trans s2) g r
end

section
variable {X : Cx}
theorem opD_of {f : Value → Value → Sem Value} {r : R2D}
    (h : ∀ (pins : List (Addr × Obj)) (s : Shared) (σ : St) (F P H : Hp) (O : Ow) (x y : V) (dx dy : D) (v u : Value) (R : VD) (Q : VK), Inv X pins σ H s → RelV x v → RelV y u → Gd M X.K F O P H → Rep X.K F dx x → Rep X.K F dy y → r dx dy O R → PostE M X.K F P R Q →
      ∃ r0, OpR X f r0 ∧ r0 x y H Q) : OpD M X f r := by
  intro pins s σ H x y v u Q I rx ry q
  obtain ⟨F, O, P, dx, dy, R, g, r1, r2, q, po⟩ := q
  obtain ⟨r0, o, z⟩ := h pins s σ F P H O x y dx dy v u R Q I rx ry g r1 r2 q po
  exact o pins s σ H x y v u Q I rx ry z

/-! ### + - * // % ** -/
def rAddD : R2D := fun x y O Q => match deref O x, deref O y with
  | .int i, .int j => Q (.int (i + j)) O
  | .int i, .bl k => Q (.int (i + b2i k)) O
  | .str i, .str j => i.length + j.length ≤ sizeLine ∧ Q (.str (i ++ j)) O
  | .lst xs, .lst ys => xs.length + ys.length ≤ sizeLine ∧ Q (.lst (xs ++ ys)) O
  | .tup xs, .tup ys => xs ≠ [] ∧ xs.length + ys.length ≤ sizeLine ∧ Q (.tup (xs ++ ys)) O
  | _, _ => False
/-- .. of two lists, the new one owned -/
def rCatO : R2D := fun x y O Q => match deref O x, deref O y with
  | .lst xs, .lst ys => xs.length + ys.length ≤ sizeLine ∧ ∀ p, O p = none → Q (.ref p) (updO O p (.lst (xs ++ ys)))
  | _, _ => False
theorem od_add : OpD M X (binaryOp .Add) rAddD := by
  refine opD_of fun pins s σ F P H O x y dx dy v u R Q I rx ry g r1 r2 q po => ?_
  have h1 := g.deref r1
  have h2 := g.deref r2
  unfold rAddD at q
  revert q h1 h2
  generalize Kf.deref O dx = ex
  generalize Kf.deref O dy = ey
  intro q h1 h2
  cases ex <;> cases ey <;> first | exact q.elim | skip
  · simp only [RepH, Rep] at h1 h2
    exact ⟨_, op_add_ib, _, _, h1, h2, po.at g q (by simp only [Rep])⟩
  · simp only [RepH, Rep] at h1 h2
    exact ⟨_, op_add, _, _, h1, h2, po.at g q (by simp only [Rep])⟩
  · simp only [RepH, Rep] at h1 h2
    exact ⟨_, op_add_str, _, _, h1, h2, q.1, po.at g q.2 (by simp only [Rep])⟩
  · simp only [RepH, Rep] at h1 h2
    obtain ⟨a, xs, rfl, a1, a2⟩ := h1
    obtain ⟨b, ys, rfl, b1, b2⟩ := h2
    obtain ⟨q1, q2, q3⟩ := q
    refine ⟨_, op_catT, a, b, xs, ys, rfl, rfl, Same.seqT g.fz a1, Same.seqT g.fz b1, ?_, by rw [← a2.length, ← b2.length]; exact q2, fun e => ?_, fun e p hp => ?_⟩
    · intro e; rw [e] at a2; have := a2.length; exact q1 (List.eq_nil_of_length_eq_zero (by simpa using this))
    · rw [e] at b2
      have l0 := b2.length
      rename_i ex ey
      have e0 : ey = [] := List.eq_nil_of_length_eq_zero (by simpa using l0)
      rw [e0, List.append_nil] at q3
      refine po.at g q3 ?_
      simp only [Rep]
      exact ⟨a, xs, rfl, a1, a2⟩
    · exact po.tup g q3 (a2.append b2) hp
  · obtain ⟨a, xs, rfl, a1, a2⟩ := h1
    obtain ⟨b, ys, rfl, b1, b2⟩ := h2
    exact ⟨_, op_cat, a, b, xs, ys, rfl, rfl, a1, b1, by rw [← a2.length, ← b2.length]; exact q.1, fun p hp => po.lst g q.2 (a2.append b2) hp⟩
theorem od_catO : OpD M X (binaryOp .Add) rCatO := by
  refine opD_of fun pins s σ F P H O x y dx dy v u R Q I rx ry g r1 r2 q po => ?_
  have h1 := g.deref r1
  have h2 := g.deref r2
  unfold rCatO at q
  revert q h1 h2
  generalize Kf.deref O dx = ex
  generalize Kf.deref O dy = ey
  intro q h1 h2
  cases ex <;> cases ey <;> first | exact q.elim | skip
  obtain ⟨a, xs, rfl, a1, a2⟩ := h1
  obtain ⟨b, ys, rfl, b1, b2⟩ := h2
  exact ⟨_, op_cat, a, b, xs, ys, rfl, rfl, a1, b1, by rw [← a2.length, ← b2.length]; exact q.1, fun p hp => po.lstO g q.2 (a2.append b2) hp⟩
def rInts (C : Int → Int → Prop) (f : Int → Int → D) : R2D := fun x y O Q => match x, y with
  | .int i, .int j => C i j ∧ Q (f i j) O
  | _, _ => False
theorem od_ints {f : Value → Value → Sem Value} {C : Int → Int → Prop} {g : Int → Int → V} {k : Int → Int → D} (h : OpR X f (rI C g)) (hk : ∀ F i j, Rep X.K F (k i j) (g i j)) : OpD M X f (rInts C k) := by
  refine opD_of fun pins s σ F P H O x y dx dy v u R Q I rx ry gd r1 r2 q po => ?_
  unfold rInts at q
  cases dx <;> first | exact q.elim | skip
  cases dy <;> first | exact q.elim | skip
  simp only [Rep] at r1 r2
  exact ⟨_, h, _, _, r1, r2, q.1, po.at gd q.2 (hk F _ _)⟩
def rInts0 (f : Int → Int → D) : R2D := fun x y O Q => match x, y with
  | .int i, .int j => Q (f i j) O
  | _, _ => False
theorem od_ints0 {f : Value → Value → Sem Value} {g : Int → Int → V} {k : Int → Int → D} (h : OpR X f (rI0 g)) (hk : ∀ F i j, Rep X.K F (k i j) (g i j)) : OpD M X f (rInts0 k) := by
  refine opD_of fun pins s σ F P H O x y dx dy v u R Q I rx ry gd r1 r2 q po => ?_
  unfold rInts0 at q
  cases dx <;> first | exact q.elim | skip
  cases dy <;> first | exact q.elim | skip
  simp only [Rep] at r1 r2
  exact ⟨_, h, _, _, r1, r2, po.at gd q (hk F _ _)⟩
theorem od_sub : OpD M X (binaryOp .Sub) (rInts0 fun i j => .int (i - j)) := od_ints0 op_sub fun _ _ _ => by simp only [Rep]
theorem od_mul : OpD M X (binaryOp .Mult) (rInts CMul fun i j => .int (i * j)) := od_ints op_mul fun _ _ _ => by simp only [Rep]
/-- // and divmod by a positive divisor below 2 ^ 60 -/
def CDv (i j : Int) : Prop := 0 < j ∧ j < 1329227995784915872903807060280344576
theorem CDv.w {i j : Int} (h : CDv i j) : CDivW i j := by
  obtain ⟨h1, h2⟩ := h
  exact wide_div h1 (b := 120) (by omega) (by decide) (by decide)
theorem op_fdivV : OpR X (binaryOp .FloorDiv) (rI CDv fun i j => .int (i / j)) := fun pins s σ H x y v u Q I rx ry ⟨i, j, e1, e2, c, q⟩ => op_fdivW pins s σ H x y v u Q I rx ry ⟨i, j, e1, e2, c.w, q⟩
theorem od_div : OpD M X (binaryOp .FloorDiv) (rInts CDv fun i j => .int (i / j)) := od_ints op_fdivV fun _ _ _ => by simp only [Rep]
theorem od_mod : OpD M X (binaryOp .Mod) (rInts (fun _ j => 0 < j) fun i j => .int (i % j)) := od_ints op_mod fun _ _ _ => by simp only [Rep]
theorem od_pow : OpD M X (binaryOp .Pow) (rInts CPow fun i j => .int (i ^ j.toNat)) := od_ints op_pow fun _ _ _ => by simp only [Rep]
/-! ### comparisons -/
/-- < of ints, of texts -/
def rLtD : R2D := fun x y O Q => match x, y with
  | .int i, .int j => Q (.bl (decide (i < j))) O
  | .str i, .str j => Q (.bl (decide (i.cps.toList < j.cps.toList))) O
  | _, _ => False
theorem od_lt : OpD M X (compareOp .Lt) rLtD := by
  refine opD_of fun pins s σ F P H O x y dx dy v u R Q I rx ry gd r1 r2 q po => ?_
  unfold rLtD at q
  cases dx <;> first | exact q.elim | skip
  all_goals cases dy <;> first | exact q.elim | skip
  · simp only [Rep] at r1 r2
    exact ⟨_, op_lt, _, _, r1, r2, po.at gd q (by simp only [Rep])⟩
  · simp only [Rep] at r1 r2
    exact ⟨_, op_lt_str, _, _, r1, r2, po.at gd q (by simp only [Rep])⟩
def rLeD : R2D := fun x y O Q => match x, y with
  | .int i, .int j => Q (.bl (decide (i ≤ j))) O
  | .str i, .str j => Q (.bl (!decide (j.cps.toList < i.cps.toList))) O
  | _, _ => False
theorem od_gt : OpD M X (compareOp .Gt) (rInts0 fun i j => .bl (decide (j < i))) := od_ints0 op_gt fun _ _ _ => by simp only [Rep]
/-- == of data; the answer by eqv -/
def rEqD (neg : Bool) : R2D := fun x y O Q => isPy (ddf O 192 x) = true ∧ isPy (ddf O 192 y) = true ∧ min (dp (ddf O 192 x)) (dp (ddf O 192 y)) ≤ 190 ∧ Q (.bl (neg ^^ PyData.eqv (toPy (ddf O 192 x)) (toPy (ddf O 192 y)))) O
theorem od_eq (hu : X.A.units + 200 < cLine) : OpD M X (compareOp .Eq) (rEqD false) := by
  intro pins s σ H x y v u Q I rx ry q
  obtain ⟨F, O, P, dx, dy, R, g, r1, r2, ⟨q1, q2, q3, q4⟩, po⟩ := q
  obtain ⟨as, w1⟩ := Dp.reads I _ x v (Rep.dp (Same.refl _) _ _ q1 (g.ddf 192 _ _ r1)) rx
  obtain ⟨bs, w2⟩ := Dp.reads I _ y u (Rep.dp (Same.refl _) _ _ q2 (g.ddf 192 _ _ r2)) ry
  have hroom : X.A.units + min (toPy (ddf O 192 dx)).depth (toPy (ddf O 192 dy)).depth < cLine := by
    have : min (toPy (ddf O 192 dx)).depth (toPy (ddf O 192 dy)).depth ≤ 190 := q3
    omega
  refine SeqAt.compareEq_reads w1 w2 (isPy_lay _ q1) (isPy_lay _ q2) hroom ⟨.bl _, H, I, rfl, ?_⟩
  rw [Bool.false_xor] at q4
  exact po.at g q4 (by simp only [Rep])
theorem od_ne (hu : X.A.units + 200 < cLine) : OpD M X (compareOp .NotEq) (rEqD true) := by
  intro pins s σ H x y v u Q I rx ry q
  obtain ⟨F, O, P, dx, dy, R, g, r1, r2, ⟨q1, q2, q3, q4⟩, po⟩ := q
  obtain ⟨as, w1⟩ := Dp.reads I _ x v (Rep.dp (Same.refl _) _ _ q1 (g.ddf 192 _ _ r1)) rx
  obtain ⟨bs, w2⟩ := Dp.reads I _ y u (Rep.dp (Same.refl _) _ _ q2 (g.ddf 192 _ _ r2)) ry
  have hroom : X.A.units + min (toPy (ddf O 192 dx)).depth (toPy (ddf O 192 dy)).depth < cLine := by
    have : min (toPy (ddf O 192 dx)).depth (toPy (ddf O 192 dy)).depth ≤ 190 := q3
    omega
  refine SeqAt.compareNe_reads w1 w2 (isPy_lay _ q1) (isPy_lay _ q2) hroom ⟨.bl _, H, I, rfl, ?_⟩
  rw [Bool.true_xor] at q4
  exact po.at g q4 (by simp only [Rep])
/-- is None, is not None -/
def isNon : D → Bool
  | .non => true
  | _ => false
theorem Rep.isNon {K : PySem.W.Frag} {F : Hp} {d : D} {v : V} (r : Rep K F d v) : decide (v = .non) = isNon d := by
  cases d <;> simp only [Rep] at r <;> first | (subst r; rfl) | (obtain ⟨a, xs, rfl, _⟩ := r; rfl) | (obtain ⟨a, rfl, _⟩ := r; rfl)
def rIsN (neg : Bool) : R2D := fun x y O Q => match y with
  | .non => Q (.bl (neg ^^ isNon x)) O
  | _ => False
theorem od_is : OpD M X (compareOp .Is) (rIsN false) := by
  refine opD_of fun pins s σ F P H O x y dx dy v u R Q I rx ry g r1 r2 q po => ?_
  unfold rIsN at q
  cases dy <;> first | exact q.elim | skip
  simp only [Rep] at r2
  refine ⟨_, op_isN, r2, ?_⟩
  rw [Bool.false_xor] at q
  rw [r1.isNon]
  exact po.at g q (by simp only [Rep])
def rInD (neg : Bool) : R2D := fun x y O Q => match deref O y with
  | .str z => match x with
    | .str i => ∃ c, i = ⟨#[c]⟩ ∧ Q (.bl (neg ^^ decide (c ∈ z.cps.toList))) O
    | _ => False
  | .lst ds => isPy (deref O x) = true ∧ isPys ds = true ∧ dp (deref O x) ≤ 190 ∧ Q (.bl (neg ^^ ds.any fun z => PyData.eqv (toPy z) (toPy (deref O x)))) O
  | .tup ds => isPy (deref O x) = true ∧ isPys ds = true ∧ dp (deref O x) ≤ 190 ∧ Q (.bl (neg ^^ ds.any fun z => PyData.eqv (toPy z) (toPy (deref O x)))) O
  | _ => False
theorem any_toPys (d : PyData) : ∀ ds : List D, (toPys ds).any (fun z => PyData.eqv z d) = ds.any fun z => PyData.eqv (toPy z) d
  | [] => rfl
  | x :: ds => by rw [toPys, List.any_cons, List.any_cons, any_toPys d ds]
theorem od_in_gen {op : CmpOp} {neg : Bool} (hu : X.A.units + 200 < cLine)
    (h1 : OpR X (compareOp op) (fun x y H Q => ∃ (c : Nat) (z : Str), x = .str ⟨#[c]⟩ ∧ y = .str z ∧ Q (.bl (neg ^^ decide (c ∈ z.cps.toList))) H))
    (h2 : ∀ (pins : List (Addr × Obj)) (s : Shared) (σ : St) (H : Hp) (x y : V) (v u : Value) (Q : VK) (d : PyData) (ds : List PyData), Inv X pins σ H s → RelV x v → RelV y u → Dp X.K H x d → Dp X.K H y (.list ds) → d.canLay0 = true → PyData.canLayAll0 ds = true → d.depth ≤ 190 →
      Q (.bl (neg ^^ ds.any fun z => PyData.eqv z d)) H → wpAny (model X.prog X.w) X.A (compareOp op v u) (EP X pins σ Q) X.xe s)
    (h3 : ∀ (pins : List (Addr × Obj)) (s : Shared) (σ : St) (H : Hp) (x y : V) (v u : Value) (Q : VK) (d : PyData) (ds : List PyData), Inv X pins σ H s → RelV x v → RelV y u → Dp X.K H x d → Dp X.K H y (.tuple ds) → d.canLay0 = true → PyData.canLayAll0 ds = true → d.depth ≤ 190 →
      Q (.bl (neg ^^ ds.any fun z => PyData.eqv z d)) H → wpAny (model X.prog X.w) X.A (compareOp op v u) (EP X pins σ Q) X.xe s) : OpD M X (compareOp op) (rInD neg) := by
  intro pins s σ H x y v u Q I rx ry q
  obtain ⟨F, O, P, dx, dy, R, g, r1, r2, q, po⟩ := q
  have e2 := g.deref r2
  unfold rInD at q
  revert q e2
  generalize hey : Kf.deref O dy = ey
  intro q e2
  cases ey <;> first | exact q.elim | skip
  · cases dx <;> first | exact q.elim | skip
    simp only [RepH, Rep] at e2 r1
    obtain ⟨c, rfl, q⟩ := q
    exact h1 pins s σ H x y v u Q I rx ry ⟨c, _, r1, e2, po.at g q (by simp only [Rep])⟩
  · simp only [RepH, Rep] at e2
    obtain ⟨b, ys, rfl, b1, b2⟩ := e2
    obtain ⟨q1, q2, q3, q4⟩ := q
    refine h3 pins s σ H x _ v u Q _ _ I rx ry ((g.deref r1).dp g.fz q1) (.tup (Same.seqT g.fz b1) (RepAll.dp g.fz _ ys q2 b2)) (isPy_lay _ q1) (isPys_lay _ q2) q3 ?_
    rw [any_toPys]
    exact po.at g q4 (by simp only [Rep])
  · obtain ⟨q1, q2, q3, q4⟩ := q
    obtain ⟨b, ys, rfl, b1, b2⟩ := e2
    refine h2 pins s σ H x _ v u Q _ _ I rx ry ((g.deref r1).dp g.fz q1) (.lst (SqL.of b1) (RepAll.dp g.fz _ ys q2 b2)) (isPy_lay _ q1) (isPys_lay _ q2) q3 ?_
    rw [any_toPys]
    exact po.at g q4 (by simp only [Rep])
theorem od_in (hu : X.A.units + 200 < cLine) : OpD M X (compareOp .In) (rInD false) := by
  refine od_in_gen hu (fun pins s σ H x y v u Q I rx ry q => ?_) (fun pins s σ H x y v u Q d ds I rx ry hd he c1 c2 c3 q => ?_) (fun pins s σ H x y v u Q d ds I rx ry hd he c1 c2 c3 q => ?_)
  · obtain ⟨c, z, e1, e2, q⟩ := q
    rw [Bool.false_xor] at q
    exact op_in_sign pins s σ H x y v u Q I rx ry ⟨c, z, e1, e2, q⟩
  · obtain ⟨as, r1⟩ := Dp.reads I d x v hd rx
    obtain ⟨bs, r2⟩ := Dp.reads I (.list ds) y u he ry
    rw [Bool.false_xor] at q
    exact SeqAt.in_list_reads r2 r1 c2 c1 (by omega) ⟨.bl _, H, I, rfl, q⟩
  · obtain ⟨as, r1⟩ := Dp.reads I d x v hd rx
    obtain ⟨bs, r2⟩ := Dp.reads I (.tuple ds) y u he ry
    rw [Bool.false_xor] at q
    exact SeqAt.in_tuple_reads r2 r1 c2 c1 (by omega) ⟨.bl _, H, I, rfl, q⟩
end
end Kf
namespace Kf
open PySem PySem.Spec L2
open PyProof.Rows hiding St
variable {M : MX}

section
variable {X : Cx} {a b e : Expr} {es : List Expr} {fa fb : FE} {fr : FA} {pos p2 : Pos}

/-! ### subscripts -/
def rIxD : R2D := fun x y O Q => match deref O x, y with
  | .lst ds, .int i => match atI ds i with
    | some d => Q d O
    | none => False
  | .tup ds, .int i => match atI ds i with
    | some d => Q d O
    | none => False
  | .str z, .int i => z.length ≤ sizeLine ∧ match atI z.cps.toList i with
    | some c => Q (.str ⟨#[c]⟩) O
    | none => False
  | .scr ns, .int i => match atI ns i with
    | some n => Q (.int n) O
    | none => False
  | .ref a, .int i => match O a with
    | some .pool => (i = 0 ∧ ∀ x : Int, 0 ≤ x → Q (.int x) O) ∨ (i = 1 ∧ ∀ x : Int, 0 ≤ x → x < 2147483647 → Q (.int x) O)
    | _ => False
  | _, _ => False
theorem RepAll.atI {K : PySem.W.Frag} {F : Hp} {ds : List D} {vs : List V} {i : Int} {d : D} (r : RepAll K F ds vs) (h : atI ds i = some d) : ∃ v, L2.atI vs i = some v ∧ Rep K F d v := by
  unfold L2.atI at h ⊢
  rw [← r.length]
  obtain ⟨j, h1, h2⟩ := Option.bind_eq_some_iff.mp h
  obtain ⟨v, e, q⟩ := r.get h2
  exact ⟨v, Option.bind_eq_some_iff.mpr ⟨j, h1, e⟩, q⟩
theorem atI_map {α β : Type} (f : α → β) (xs : List α) (i : Int) : L2.atI (xs.map f) i = (L2.atI xs i).map f := by
  unfold L2.atI
  rw [List.length_map]
  cases ixN xs.length i with
  | none => rfl
  | some j => simp
theorem id_ix : IxR X (liftR2 M X.K rIxD) := by
  intro value slice pins s σ H x y v u Q I rx ry q hp
  obtain ⟨F, O, P, dx, dy, R, g, r1, r2, q, po⟩ := q
  have h1 := g.deref r1
  unfold rIxD at q
  revert q h1
  generalize Kf.deref O dx = ex
  intro q h1
  cases ex <;> first | exact q.elim | skip
  all_goals cases dy <;> first | exact q.elim | skip
  all_goals simp only [Rep] at r2; subst r2
  · rename_i z i
    simp only [RepH, Rep] at h1; subst h1
    dsimp only at q
    obtain ⟨q0, q⟩ := q
    cases e : L2.atI z.cps.toList i with
    | none => rw [e] at q; exact q.elim
    | some c =>
      rw [e] at q
      exact ix_str value slice pins s σ H _ _ v u Q I rx ry ⟨z, i, c, rfl, rfl, q0, e, po.at g q (by simp only [Rep])⟩ hp
  · rename_i ds i
    simp only [RepH, Rep] at h1
    obtain ⟨c, xs, rfl, h1, h2⟩ := h1
    dsimp only at q
    cases e : L2.atI ds i with
    | none => rw [e] at q; exact q.elim
    | some d =>
      rw [e] at q
      obtain ⟨w, e2, rw'⟩ := h2.atI e
      exact ix_tup value slice pins s σ H _ _ v u Q I rx ry ⟨c, xs, i, w, rfl, rfl, Same.seqT g.fz h1, e2, po.at g q rw'⟩ hp
  · rename_i ds i
    obtain ⟨c, xs, rfl, h1, h2⟩ := h1
    dsimp only at q
    cases e : L2.atI ds i with
    | none => rw [e] at q; exact q.elim
    | some d =>
      rw [e] at q
      obtain ⟨w, e2, rw'⟩ := h2.atI e
      exact ix_list value slice pins s σ H _ _ v u Q I rx ry ⟨c, xs, i, w, rfl, rfl, SqL.of h1, e2, po.at g q rw'⟩ hp
  · rename_i c i
    simp only [RepH, Rep] at h1
    subst h1
    dsimp only at q
    cases e : O c with
    | none => rw [e] at q; exact q.elim
    | some cl =>
      rw [e] at q
      cases cl with
      | lst _ => exact q.elim
      | dic _ => exact q.elim
      | dicL _ _ => exact q.elim
      | exc _ _ => exact q.elim
      | ins _ _ => exact q.elim
      | pool =>
        obtain ⟨_, _, z, y, hH, h2, h3, h4⟩ := g.ow c _ e
        rcases q with ⟨rfl, q⟩ | ⟨rfl, q⟩
        · exact ix_list value slice pins s σ H _ _ v u Q I rx ry ⟨c, _, 0, .int z, rfl, rfl, SqL.of hH, rfl, po.at g (q z h2) (by simp only [Rep])⟩ hp
        · exact ix_list value slice pins s σ H _ _ v u Q I rx ry ⟨c, _, 1, .int y, rfl, rfl, SqL.of hH, rfl, po.at g (q y h3 h4) (by simp only [Rep])⟩ hp
  · rename_i ns i
    simp only [RepH, Rep] at h1
    obtain ⟨c, rfl, h1⟩ := h1
    dsimp only at q
    cases e : L2.atI ns i with
    | none => rw [e] at q; exact q.elim
    | some n =>
      rw [e] at q
      have e2 : L2.atI (ns.map V.int) i = some (.int n) := by rw [atI_map, e]; rfl
      exact ix_list value slice pins s σ H _ _ v u Q I rx ry ⟨c, _, i, _, rfl, rfl, g.fz.seq h1, e2, po.at g q (by simp only [Rep])⟩ hp
theorem de_ix (ha : DE M X a fa) (hb : DE M X b fb) (hs : PlainIx b := by intro _ _; rfl) : DE M X (.Subscript a b pos) (fOp rIxD fa fb) := peMono (pe_ix id_ix ha hb hs) fOp_lift
/-! ### slices -/
abbrev FO := DEnv → Ow → (Option Int → Ow → Prop) → Prop
def liftO (M : MX) (K : PySem.W.Frag) (f : FO) : TO := fun σ H Q => ∃ F O P ρ R, Gd M K F O P H ∧ EnvOk K F ρ σ ∧ f ρ O R ∧ ∀ o O' F' H', R o O' → Same F F' → Gd M K F' O' P H' → Q o H'
abbrev DO (M : MX) (X : Cx) (e : Option Expr) (f : FO) : Prop := PO X e (liftO M X.K f)
theorem poMono {X : Cx} {e : Option Expr} {t t' : TO} (h : PO X e t) (imp : ∀ σ H Q, t' σ H Q → t σ H Q) : PO X e t' := ⟨fun pins s σ H Q I q => h.run pins s σ H Q I (imp σ H Q q)⟩
def fNoPart : FO := fun _ O Q => Q none O
def asI (d : D) (O : Ow) (Q : Option Int → Ow → Prop) : Prop := match d with
  | .int i => Q (some i) O
  | _ => False
theorem asI_i {i : Int} {O : Ow} {Q : Option Int → Ow → Prop} : asI (.int i) O Q = Q (some i) O := rfl
def fPart (f : FE) : FO := fun ρ O Q => f ρ O fun d O1 => asI d O1 Q
theorem do_none : DO M X none fNoPart := poMono po_none fun σ H Q h => by
  obtain ⟨F, O, P, ρ, R, g, en, q, po⟩ := h
  exact po none O F H q (Same.refl _) g
theorem do_some (h : DE M X e fa) : DO M X (some e) (fPart fa) := poMono (po_some h) fun σ H Q h => by
  obtain ⟨F, O, P, ρ, R, g, en, q, po⟩ := h
  refine ⟨F, O, P, ρ, _, g, en, q, fun d O' F' H' v q1 s1 g1 r1 => ?_⟩
  unfold asI at q1
  cases d <;> first | exact q1.elim | skip
  simp only [Rep] at r1
  exact ⟨_, r1, po _ O' F' H' q1 s1 g1⟩
def cut {α : Type} (xs : List α) (lo hi : Option Int) : List α := (xs.drop (HT.sIx xs.length 0 lo)).take (HT.sIx xs.length xs.length hi - HT.sIx xs.length 0 lo)
theorem RepAll.cut {K : PySem.W.Frag} {F : Hp} {ds : List D} {vs : List V} (r : RepAll K F ds vs) (lo hi : Option Int) : RepAll K F (Kf.cut ds lo hi) (cutV vs lo hi) := by
  unfold Kf.cut cutV
  rw [r.length]
  exact (r.drop _).take _
abbrev R3D := D → Option Int → Option Int → Ow → VD → Prop
def rSlD : R3D := fun x lo hi O Q => match deref O x with
  | .lst ds => Q (.lst (cut ds lo hi)) O
  | .tup ds => ¬ (HT.sIx ds.length 0 lo = 0 ∧ HT.sIx ds.length ds.length hi = ds.length) ∧ Q (.tup (cut ds lo hi)) O
  | .str z => z.length ≤ sizeLine ∧ Q (.str (cutS z lo hi)) O
  | _ => False
def liftR3 (M : MX) (K : PySem.W.Frag) (r : R3D) : V → Option Int → Option Int → Hp → VK → Prop := fun x lo hi H Q => ∃ F O P dx R, Gd M K F O P H ∧ Rep K F dx x ∧ r dx lo hi O R ∧ PostE M K F P R Q
theorem sd_sl : SlR X (liftR3 M X.K rSlD) := by
  intro pins s σ H x v vl vu lo hi sl Q I rx hs pl pu q
  obtain ⟨F, O, P, dx, R, g, r1, q, po⟩ := q
  have h1 := g.deref r1
  unfold rSlD at q
  revert q h1
  generalize Kf.deref O dx = ex
  intro q h1
  cases ex <;> first | exact q.elim | skip
  · simp only [RepH, Rep] at h1
    exact sl_str pins s σ H x v vl vu lo hi sl Q I rx hs pl pu ⟨_, h1, q.1, po.at g q.2 (by simp only [Rep])⟩
  · simp only [RepH, Rep] at h1
    obtain ⟨c, xs, rfl, h1, h2⟩ := h1
    refine sl_tup pins s σ H _ v vl vu lo hi sl Q I rx hs pl pu ⟨c, xs, rfl, Same.seqT g.fz h1, by rw [← h2.length]; exact q.1, fun p hp => po.tup g q.2 (h2.cut lo hi) hp⟩
  · obtain ⟨c, xs, rfl, h1, h2⟩ := h1
    exact sl_list pins s σ H _ v vl vu lo hi sl Q I rx hs pl pu ⟨c, xs, rfl, SqL.of h1, fun p hp => po.lst g q (h2.cut lo hi) hp⟩
def fSl (r : R3D) (fe : FE) (fl fh : FO) : FE := fun ρ O Q => fe ρ O fun x O1 => fl ρ O1 fun l O2 => fh ρ O2 fun u O3 => r x l u O3 Q
theorem de_sliceR {r : R3D} {lo hi : Option Expr} {fl fh : FO} (hr : SlR X (liftR3 M X.K r)) (he : DE M X e fa) (hl : DO M X lo fl) (hu : DO M X hi fh) : DE M X (.Subscript e (.Slice lo hi none p2) pos) (fSl r fa fl fh) := by
  refine peMono (pe_slice hr he hl hu) fun σ H Q h => ?_
  obtain ⟨F, O, P, ρ, R, g, en, q, po⟩ := h
  refine ⟨F, O, P, ρ, _, g, en, q, fun x O1 F1 H1 v q1 s1 g1 r1 => ?_⟩
  refine ⟨F1, O1, P, ρ, _, g1, en.mono s1, q1, fun l O2 F2 H2 q2 s2 g2 => ?_⟩
  refine ⟨F2, O2, P, ρ, _, g2, en.mono (s1.trans s2), q2, fun u O3 F3 H3 q3 s3 g3 => ?_⟩
  exact ⟨F3, O3, P, x, R, g3, r1.mono (s2.trans s3), q3, po.more (s1.trans (s2.trans s3))⟩
theorem de_slice {lo hi : Option Expr} {fl fh : FO} (he : DE M X e fa) (hl : DO M X lo fl) (hu : DO M X hi fh) : DE M X (.Subscript e (.Slice lo hi none p2) pos) (fSl rSlD fa fl fh) := de_sliceR sd_sl he hl hu
/-! ### -a -/
def rNeg : R1D := fun x O Q => match x with
  | .int i => Q (.int (-i)) O
  | _ => False
def fUn (r : R1D) (f : FE) : FE := fun ρ O Q => f ρ O fun x O1 => r x O1 Q
theorem de_neg (ha : DE M X a fa) : DE M X (.UnaryOp .USub a pos) (fUn rNeg fa) := by
  refine peMono (pe_un un_neg ha) fun σ H Q h => ?_
  obtain ⟨F, O, P, ρ, R, g, en, q, po⟩ := h
  refine ⟨F, O, P, ρ, _, g, en, q, fun x O1 F1 H1 v q1 s1 g1 r1 => ?_⟩
  cases x <;> first | exact q1.elim | skip
  simp only [Rep] at r1
  exact ⟨_, r1, (po.more s1).at g1 q1 (by simp only [Rep])⟩
/-! ### calls of built-ins -/
abbrev RAD := List D → Ow → VD → Prop
abbrev CallD (M : MX) (X : Cx) (f : Value) (r : RAD) : Prop := CallR X f (liftRA M X.K r)
def fCB (r : RAD) (fr : FA) : FE := fun ρ O Q => fr ρ O fun ds O1 => r ds O1 Q
theorem fCB_lift {r : RAD} : ∀ σ H Q, liftE M X.K (fCB r fr) σ H Q → tCB (liftRA M X.K r) (liftA M X.K fr) σ H Q := by
  intro σ H Q h
  obtain ⟨F, O, P, ρ, R, g, en, q, po⟩ := h
  refine ⟨F, O, P, ρ, _, g, en, q, fun ds O1 F1 H1 vs q1 s1 g1 r1 => ?_⟩
  exact ⟨F1, O1, P, ds, R, g1, r1, q1, po.more s1⟩
theorem de_callB {id : String} {r : RAD} {x : Str} {p : Pos} (hc : CallD M X (.builtin id) r) (hg : Gl X x) (hm : X.mg x = none) (hv : bootBuiltins x = some (.builtin id)) (ha : DA M X (e :: es) fr) (hn : x ≠ "__name__" := by decide) (hdb : (x == ("__debug__" : Str)) = false := by decide)
    (he : starEach (e :: es) X.env = (false, eval e X.env) :: starEach es X.env := by rfl) (hpl : (backTo pos (starEach es X.env)).any (·.1) = false := by rfl) : DE M X (.Call (.Name x p) (e :: es) [] pos) (fCB r fr) :=
  peMono (pe_callB hc hg hm hv ha hn hdb he hpl) fCB_lift
theorem de_callTy {T : String} {r : RAD} {x : Str} {p : Pos} (hc : CallD M X (.type T) r) (hg : Gl X x) (hm : X.mg x = none) (hv : bootBuiltins x = some (.type T)) (ha : DA M X (e :: es) fr) (hn : x ≠ "__name__" := by decide) (hdb : (x == ("__debug__" : Str)) = false := by decide)
    (he : starEach (e :: es) X.env = (false, eval e X.env) :: starEach es X.env := by rfl) (hpl : (backTo pos (starEach es X.env)).any (·.1) = false := by rfl) : DE M X (.Call (.Name x p) (e :: es) [] pos) (fCB r fr) :=
  peMono (pe_callTy hc hg hm hv ha hn hdb he hpl) fCB_lift
theorem callD_of {f : Value} {r : RAD}
    (h : ∀ (F P H : Hp) (O : Ow) (xs : List V) (ds : List D) (R : VD) (Q : VK), Gd M X.K F O P H → RepAll X.K F ds xs → r ds O R → PostE M X.K F P R Q → ∃ r0, CallR X f r0 ∧ r0 xs H Q) : CallD M X f r := by
  intro pins s σ H xs us Q I rx q
  obtain ⟨F, O, P, ds, R, g, r1, q, po⟩ := q
  obtain ⟨r0, o, z⟩ := h F P H O xs ds R Q g r1 q po
  exact o pins s σ H xs us Q I rx z
/-- len -/
def rLenD : RAD := fun ds O Q => match ds with
  | [x] => match deref O x with
    | .lst ds => Q (.int ds.length) O
    | .tup ds => Q (.int ds.length) O
    | .str z => z.length ≤ sizeLine ∧ Q (.int z.length) O
    | .scr ns => Q (.int ns.length) O
    | _ => False
  | _ => False
theorem RepAll.one' {K : PySem.W.Frag} {F : Hp} {d : D} {vs : List V} (h : RepAll K F [d] vs) : ∃ v, vs = [v] ∧ Rep K F d v := by
  simp only [RepAll] at h
  obtain ⟨v, r, rfl, h1, rfl⟩ := h
  exact ⟨v, rfl, h1⟩
theorem RepAll.two' {K : PySem.W.Frag} {F : Hp} {d e : D} {vs : List V} (h : RepAll K F [d, e] vs) : ∃ v w, vs = [v, w] ∧ Rep K F d v ∧ Rep K F e w := by
  simp only [RepAll] at h
  obtain ⟨v, r, rfl, h1, w, r2, rfl, h2, rfl⟩ := h
  exact ⟨v, w, rfl, h1, h2⟩
theorem cd_len : CallD M X (.builtin "len") rLenD := by
  refine callD_of fun F P H O xs ds R Q g r1 q po => ?_
  match ds, q with
  | [x], q =>
    obtain ⟨v, rfl, r1'⟩ := r1.one'
    have h1 := g.deref r1'
    unfold rLenD at q
    dsimp only at q
    revert q h1
    generalize Kf.deref O x = ex
    intro q h1
    cases ex <;> first | exact q.elim | skip
    · simp only [RepH, Rep] at h1
      exact ⟨_, call_len_str, _, by rw [h1], q.1, po.at g q.2 (by simp only [Rep])⟩
    · simp only [RepH, Rep] at h1
      obtain ⟨c, xs, rfl, h1, h2⟩ := h1
      exact ⟨_, call_len_seq, c, xs, rfl, .inr (Same.seqT g.fz h1), po.at g q (by simp only [Rep]; rw [h2.length])⟩
    · obtain ⟨c, xs, rfl, h1, h2⟩ := h1
      exact ⟨_, call_len_seq, c, xs, rfl, .inl (SqL.of h1), po.at g q (by simp only [Rep]; rw [h2.length])⟩
    · simp only [RepH, Rep] at h1
      obtain ⟨c, rfl, h1⟩ := h1
      exact ⟨_, call_len_seq, c, _, rfl, .inl (g.fz.seq h1), po.at g q (by simp only [Rep]; rw [List.length_map])⟩
/-- max, min of two ints -/
def rMax2 : RAD := fun ds O Q => match ds with
  | [.int i, .int j] => Q (.int (if j > i then j else i)) O
  | _ => False
def rMin2 : RAD := fun ds O Q => match ds with
  | [.int i, .int j] => Q (.int (if j < i then j else i)) O
  | _ => False
theorem cd_max2 (hc : X.calm = true) : CallD M X (.builtin "max") rMax2 := by
  refine callD_of fun F P H O xs ds R Q g r1 q po => ?_
  unfold rMax2 at q
  split at q
  · obtain ⟨v, w, rfl, h1, h2⟩ := r1.two'
    simp only [Rep] at h1 h2
    exact ⟨_, call_max2 hc, _, _, by rw [h1, h2], po.at g q (by simp only [Rep])⟩
  · exact q.elim
theorem cd_min2 (hc : X.calm = true) : CallD M X (.builtin "min") rMin2 := by
  refine callD_of fun F P H O xs ds R Q g r1 q po => ?_
  unfold rMin2 at q
  split at q
  · obtain ⟨v, w, rfl, h1, h2⟩ := r1.two'
    simp only [Rep] at h1 h2
    exact ⟨_, call_min2 hc, _, _, by rw [h1, h2], po.at g q (by simp only [Rep])⟩
  · exact q.elim
/-- int(i), int(b); str(i) -/
def rInt1 : RAD := fun ds O Q => match ds with
  | [.int i] => Q (.int i) O
  | [.bl k] => Q (.int (if k then 1 else 0)) O
  | _ => False
theorem cd_int1 : CallD M X (.type "int") rInt1 := by
  refine callD_of fun F P H O xs ds R Q g r1 q po => ?_
  unfold rInt1 at q
  split at q
  · obtain ⟨v, rfl, h1⟩ := r1.one'
    simp only [Rep] at h1
    exact ⟨_, call_int1, .inl ⟨_, by rw [h1], po.at g q (by simp only [Rep])⟩⟩
  · obtain ⟨v, rfl, h1⟩ := r1.one'
    simp only [Rep] at h1
    exact ⟨_, call_int1, .inr ⟨_, by rw [h1], po.at g q (by simp only [Rep])⟩⟩
  · exact q.elim
def rStr1 : RAD := fun ds O Q => match ds with
  | [.int i] => i.natAbs.log2 < 1920 ∧ Q (.str (toString i)) O
  | _ => False
/-- list(x): a new list; tuple(x) -/
def rList1 : RAD := fun ds O Q => match ds with
  | [x] => match deref O x with
    | .lst ds => Q (.lst ds) O
    | .tup ds => Q (.lst ds) O
    | _ => False
  | _ => False
def rList1O : RAD := fun ds O Q => match ds with
  | [x] => match deref O x with
    | .lst ds => ∀ p, O p = none → Q (.ref p) (updO O p (.lst ds))
    | .tup ds => ∀ p, O p = none → Q (.ref p) (updO O p (.lst ds))
    | _ => False
  | _ => False
def rTup1 : RAD := fun ds O Q => match ds with
  | [x] => match deref O x with
    | .lst ds => Q (.tup ds) O
    | .tup ds => Q (.tup ds) O
    | _ => False
  | _ => False
theorem cd_list1 : CallD M X (.type "list") rList1 := by
  refine callD_of fun F P H O xs ds R Q g r1 q po => ?_
  match ds, q with
  | [x], q =>
    obtain ⟨v, rfl, r1'⟩ := r1.one'
    have h1 := g.deref r1'
    unfold rList1 at q
    dsimp only at q
    revert q h1
    generalize Kf.deref O x = ex
    intro q h1
    cases ex <;> first | exact q.elim | skip
    · simp only [RepH, Rep] at h1
      obtain ⟨c, xs, rfl, h1, h2⟩ := h1
      exact ⟨_, call_list_of, c, xs, rfl, .inr (Same.seqT g.fz h1), fun p hp => po.lst g q h2 hp⟩
    · obtain ⟨c, xs, rfl, h1, h2⟩ := h1
      exact ⟨_, call_list_of, c, xs, rfl, .inl (SqL.of h1), fun p hp => po.lst g q h2 hp⟩
theorem cd_list1O : CallD M X (.type "list") rList1O := by
  refine callD_of fun F P H O xs ds R Q g r1 q po => ?_
  match ds, q with
  | [x], q =>
    obtain ⟨v, rfl, r1'⟩ := r1.one'
    have h1 := g.deref r1'
    unfold rList1O at q
    dsimp only at q
    revert q h1
    generalize Kf.deref O x = ex
    intro q h1
    cases ex <;> first | exact q.elim | skip
    · simp only [RepH, Rep] at h1
      obtain ⟨c, xs, rfl, h1, h2⟩ := h1
      exact ⟨_, call_list_of, c, xs, rfl, .inr (Same.seqT g.fz h1), fun p hp => po.lstO g q h2 hp⟩
    · obtain ⟨c, xs, rfl, h1, h2⟩ := h1
      exact ⟨_, call_list_of, c, xs, rfl, .inl (SqL.of h1), fun p hp => po.lstO g q h2 hp⟩
/-- sum of a list of ints -/
def asInts : List D → Option (List Int)
  | [] => some []
  | .int i :: ds => (asInts ds).map (i :: ·)
  | _ :: _ => none
theorem asInts_map (ns : List Int) : asInts (ns.map D.int) = some ns := by
  induction ns with
  | nil => rfl
  | cons n ns ih => rw [List.map_cons, asInts, ih]; rfl
/-- divmod: a new tuple -/
def rDivmod : RAD := fun ds O Q => match ds with
  | [.int i, .int j] => CDv i j ∧ Q (.tup [.int (i / j), .int (i % j)]) O
  | _ => False
/-! ### isinstance -/
def tyNm (O : Ow) : D → String
  | .non => "NoneType"
  | .bl _ => "bool"
  | .int _ => "int"
  | .str _ => "str"
  | .tup _ => "tuple"
  | .lst _ => "list"
  | .edic => "dict"
  | .ref a => match O a with
    | some (.lst _) => "list"
    | some .pool => "list"
    | some (.dic _) => "dict"
    | _ => ""
  | _ => ""
def insOf (t n : String) : Bool := t == n || (t == "bool" && n == "int")
def insTy : List String := ["NoneType", "bool", "int", "str", "tuple", "list", "dict"]
def insCl : List String := ["bool", "int", "str", "tuple", "list", "dict"]
theorem ins_kit : (insTy.all fun t => insCl.all fun n => decide (kitB t n = some (insOf t n))) = true := by decide +kernel
theorem ins_kit' {t n : String} (ht : t ∈ insTy) (hn : n ∈ insCl) : kitB t n = some (insOf t n) := by
  have h := List.all_eq_true.mp (List.all_eq_true.mp ins_kit t ht) n hn
  exact of_decide_eq_true h
def rIsiD : RAD := fun ds O Q => match ds with
  | [x, .ty n] => insCl.contains n = true ∧ insTy.contains (tyNm O x) = true ∧ Q (.bl (insOf (tyNm O x) n)) O
  | _ => False
theorem tyX_of {K : PySem.W.Frag} {F P H : Hp} {O : Ow} {d : D} {v : V} (g : Gd M K F O P H) (r : Rep K F d v) (h : insTy.contains (tyNm O d) = true) : TyX K H v (.type (tyNm O d)) := by
  cases d with
  | non => simp only [Rep] at r; subst r; exact .base .non
  | bl b => simp only [Rep] at r; subst r; exact .base (.bl b)
  | int i => simp only [Rep] at r; subst r; exact .base (.int i)
  | str x => simp only [Rep] at r; subst r; exact .base (.str x)
  | tup ds =>
    simp only [Rep] at r
    obtain ⟨a, xs, rfl, h1, _⟩ := r
    rcases h1 with (h1 | ⟨o, h1⟩) | ⟨o, its, n, h1, h2, _⟩
    · exact .base (.tup (g.fz _ _ h1))
    · exact .fTuple (g.fz _ _ h1)
    · exact .kTuple h1 h2
  | lst ds =>
    simp only [Rep] at r
    obtain ⟨a, xs, rfl, h1, _⟩ := r
    exact .base (.lst (g.fz _ _ h1))
  | edic =>
    simp only [Rep] at r
    obtain ⟨a, rfl, h1⟩ := r
    exact .base (.dK (g.fz _ _ h1))
  | ref a =>
    simp only [Rep] at r
    subst r
    cases e : O a with
    | none =>
      have z : tyNm O (.ref a) = "" := by simp only [tyNm, e]
      rw [z] at h; exact absurd h (by decide)
    | some c =>
      have q := (g.ow a c e).2.2
      cases c with
      | lst ds =>
        have z : tyNm O (.ref a) = "list" := by simp only [tyNm, e]
        rw [z]; obtain ⟨vs, q, _⟩ := q; exact .base (.lst q)
      | pool =>
        have z : tyNm O (.ref a) = "list" := by simp only [tyNm, e]
        rw [z]; obtain ⟨x, y, q, _⟩ := q; exact .base (.lst q)
      | dic kvs =>
        have z : tyNm O (.ref a) = "dict" := by simp only [tyNm, e]
        rw [z]; obtain ⟨vs, q, _⟩ := q; exact .base (.dK q)
      | dicL kvs o =>
        have z : tyNm O (.ref a) = "" := by simp only [tyNm, e]
        rw [z] at h; exact absurd h (by decide)
      | exc _ _ =>
        have z : tyNm O (.ref a) = "" := by simp only [tyNm, e]
        rw [z] at h; exact absurd h (by decide)
      | ins _ _ =>
        have z : tyNm O (.ref a) = "" := by simp only [tyNm, e]
        rw [z] at h; exact absurd h (by decide)
  | ty n => simp [tyNm, insTy] at h
  | scr ns => simp [tyNm, insTy] at h
theorem cd_isi : CallD M X (.builtin "isinstance") rIsiD := by
  refine callD_of fun F P H O xs ds R Q g r1 q po => ?_
  unfold rIsiD at q
  split at q
  · obtain ⟨v, w, rfl, h1, h2⟩ := r1.two'
    simp only [Rep] at h2
    subst h2
    obtain ⟨q1, q2, q3⟩ := q
    exact ⟨_, call_isi, _, _, _, _, _, rfl, .ty _, tyX_of g h1 q2, kit_ty (ins_kit' (by simpa using q2) (by simpa using q1)), po.at g q3 (by simp only [Rep])⟩
  · exact q.elim
/-! ### methods of built-in types -/
abbrev RMD := D → List D → Ow → VD → Prop
def liftRM (M : MX) (K : PySem.W.Frag) (r : RMD) : V → List V → Hp → VK → Prop := fun x xs H Q => ∃ F O P dx ds R, Gd M K F O P H ∧ Rep K F dx x ∧ RepAll K F ds xs ∧ r dx ds O R ∧ PostE M K F P R Q
abbrev MtD (M : MX) (X : Cx) (id : String) (r : RMD) : Prop := MtR X id (liftRM M X.K r)
def tyOk (T : String) (O : Ow) (d : D) : Bool := T == "list" && tyNm O d == "list" || T == "str" && tyNm O d == "str"
theorem tyV_of {K : PySem.W.Frag} {F P H : Hp} {O : Ow} {d : D} {v : V} {T : String} (g : Gd M K F O P H) (r : Rep K F d v) (h : tyOk T O d = true) : tyV K T v H := by
  unfold tyOk at h
  rw [Bool.or_eq_true, Bool.and_eq_true, Bool.and_eq_true] at h
  rcases h with ⟨h1, h2⟩ | ⟨h1, h2⟩
  · have e1 : T = "list" := by simpa using h1
    have e2 : tyNm O d = "list" := by simpa using h2
    subst e1
    cases d <;> first | (simp [tyNm] at e2; done) | skip
    · simp only [Rep] at r
      obtain ⟨a, xs, rfl, q, _⟩ := r
      exact Or.inl ⟨rfl, xs, SqL.of (g.fz _ _ q)⟩
    · rename_i a
      simp only [Rep] at r
      subst r
      cases e : O a with
      | none => simp [tyNm, e] at e2
      | some c =>
        have q := (g.ow a c e).2.2
        cases c with
        | lst ds => obtain ⟨vs, q, _⟩ := q; exact Or.inl ⟨rfl, vs, SqL.of q⟩
        | pool => obtain ⟨x, y, q, _⟩ := q; exact Or.inl ⟨rfl, _, SqL.of q⟩
        | dic _ => simp [tyNm, e] at e2
        | dicL _ _ => simp [tyNm, e] at e2
        | exc _ _ => simp [tyNm, e] at e2
        | ins _ _ => simp [tyNm, e] at e2
  · have e1 : T = "str" := by simpa using h1
    have e2 : tyNm O d = "str" := by simpa using h2
    subst e1
    cases d <;> first | (simp [tyNm] at e2; done) | skip
    · simp only [Rep] at r; subst r; rfl
    · rename_i a
      cases e : O a with
      | none => simp [tyNm, e] at e2
      | some c => cases c <;> simp [tyNm, e] at e2
def fBM (T : String) (r : RMD) (fo : FE) (fr : FA) : FE := fun ρ O Q => fo ρ O fun x O1 => tyOk T O1 x = true ∧ fr ρ O1 fun ds O2 => r x ds O2 Q
def fBM0 (T : String) (r : RMD) (fo : FE) : FE := fun ρ O Q => fo ρ O fun x O1 => tyOk T O1 x = true ∧ r x [] O1 Q
variable {o : Expr} {fo : FE} {name : Str} {apos cpos : Pos} {T id : String} {r : RMD}
theorem de_bm (pa : PlainAttrs T) (slot : Slot T name id) (hty : typeOf (.builtin id) = pure (.type "method_descriptor")) (hm : MtD M X id r) (ho : DE M X o fo) (ha : DA M X (e :: es) fr)
    (hbase : attributeBase o name X.env (eval o X.env) = eval o X.env := by rfl)
    (hfew : ((backTo cpos (starEach (e :: es) X.env)).all (fun x => !x.1) && (backToKw cpos (keywordEach [] X.env)).all (fun x => x.1.isSome)
      && decide ((e :: es).length + ([] : List Keyword).length + (if ([] : List Keyword).isEmpty then 0 else 1) < 30)) = true := by rfl)
    (hline : (apos.endLine == cpos.line) = true := by rfl) (hs : starEach (e :: es) X.env = (false, eval e X.env) :: starEach es X.env := by rfl) (hplain : (backTo cpos (starEach es X.env)).any (·.1) = false := by rfl) :
    DE M X (.Call (.Attribute o name apos) (e :: es) [] cpos) (fBM T r fo fr) := by
  refine peMono (pe_bm pa slot hty hm ho ha hbase hfew hline hs hplain) fun σ H Q h => ?_
  obtain ⟨F, O, P, ρ, R, g, en, q, po⟩ := h
  refine ⟨F, O, P, ρ, _, g, en, q, fun x O1 F1 H1 v q1 s1 g1 r1 => ⟨tyV_of g1 r1 q1.1, ?_⟩⟩
  refine ⟨F1, O1, P, ρ, _, g1, en.mono s1, q1.2, fun ds O2 F2 H2 vs q2 s2 g2 r2 => ?_⟩
  exact ⟨F2, O2, P, x, ds, R, g2, r1.mono s2, r2, q2, po.more (s1.trans s2)⟩
theorem de_bm0 (pa : PlainAttrs T) (slot : Slot T name id) (hty : typeOf (.builtin id) = pure (.type "method_descriptor")) (hm : MtD M X id r) (ho : DE M X o fo)
    (hbase : attributeBase o name X.env (eval o X.env) = eval o X.env := by rfl) (hline : (apos.endLine == cpos.line) = true := by rfl) : DE M X (.Call (.Attribute o name apos) [] [] cpos) (fBM0 T r fo) := by
  refine peMono (pe_bm0 pa slot hty hm ho hbase hline) fun σ H Q h => ?_
  obtain ⟨F, O, P, ρ, R, g, en, q, po⟩ := h
  refine ⟨F, O, P, ρ, _, g, en, q, fun x O1 F1 H1 v q1 s1 g1 r1 => ⟨tyV_of g1 r1 q1.1, ?_⟩⟩
  exact ⟨F1, O1, P, x, [], R, g1, r1, .nil, q1.2, po.more s1⟩
theorem mtD_of {id : String} {r : RMD}
    (h : ∀ (F P H : Hp) (O : Ow) (x : V) (xs : List V) (dx : D) (ds : List D) (R : VD) (Q : VK), Gd M X.K F O P H → Rep X.K F dx x → RepAll X.K F ds xs → r dx ds O R → PostE M X.K F P R Q → ∃ r0, MtR X id r0 ∧ r0 x xs H Q) : MtD M X id r := by
  intro pins s σ H x xs v us Q I rx rxs q
  obtain ⟨F, O, P, dx, ds, R, g, r1, r2, q, po⟩ := q
  obtain ⟨r0, o, z⟩ := h F P H O x xs dx ds R Q g r1 r2 q po
  exact o pins s σ H x xs v us Q I rx rxs z
/-- xs.append(y), an owned list -/
def rAppendD : RMD := fun x ds O Q => match x, ds with
  | .ref a, [y] => match O a with
    | some (.lst xs) => xs.length < sizeLine ∧ Q .non (updO O a (.lst (xs ++ [y])))
    | _ => False
  | _, _ => False
theorem md_append : MtD M X "list.append" rAppendD := by
  refine mtD_of fun F P H O x xs dx ds R Q g r1 r2 q po => ?_
  unfold rAppendD at q
  split at q
  · rename_i a y
    obtain ⟨v, rfl, r2'⟩ := r2.one'
    simp only [Rep] at r1
    subst r1
    cases e : O a with
    | none => rw [e] at q; exact q.elim
    | some c =>
      rw [e] at q
      cases c with
      | pool => exact q.elim
      | dic _ => exact q.elim
      | dicL _ _ => exact q.elim
      | exc _ _ => exact q.elim
      | ins _ _ => exact q.elim
      | lst zs =>
        obtain ⟨_, _, vs, h1, h2⟩ := g.ow a _ e
        refine ⟨_, mt_append, a, vs, v, rfl, rfl, h1, by rw [← h2.length]; exact q.1, ?_⟩
        exact po .non _ F _ _ q.2 (Same.refl _) (g.setO e ⟨_, upd_same, h2.append (.one r2')⟩) (by simp only [Rep])
  · exact q.elim
/-- xs.extend(ys) -/
def rExtendD : RMD := fun x ds O Q => match x, ds with
  | .ref a, [y] => match O a, deref O y with
    | some (.lst xs), .lst ys => xs.length + ys.length ≤ sizeLine ∧ Q .non (updO O a (.lst (xs ++ ys)))
    | _, _ => False
  | _, _ => False
theorem md_extend : MtD M X "list.extend" rExtendD := by
  refine mtD_of fun F P H O x xs dx ds R Q g r1 r2 q po => ?_
  unfold rExtendD at q
  split at q
  · rename_i a y
    obtain ⟨v, rfl, r2'⟩ := r2.one'
    simp only [Rep] at r1
    subst r1
    have h2 := g.deref r2'
    revert q h2
    generalize Kf.deref O y = ey
    intro q h2
    cases e : O a with
    | none => rw [e] at q; exact q.elim
    | some c =>
      rw [e] at q
      cases c with
      | pool => exact q.elim
      | dic _ => exact q.elim
      | dicL _ _ => exact q.elim
      | exc _ _ => exact q.elim
      | ins _ _ => exact q.elim
      | lst zs =>
        cases ey <;> first | exact q.elim | skip
        obtain ⟨b, ws, rfl, h3, h4⟩ := h2
        obtain ⟨_, _, vs, h5, h6⟩ := g.ow a _ e
        refine ⟨_, mt_extend, a, b, vs, ws, rfl, rfl, h5, h3, by rw [← h6.length, ← h4.length]; exact q.1, ?_⟩
        exact po .non _ F _ _ q.2 (Same.refl _) (g.setO e ⟨_, upd_same, h6.append h4⟩) (by simp only [Rep])
  · exact q.elim
/-- xs.pop() -/
def rPopD : RMD := fun x ds O Q => match x, ds with
  | .ref a, [] => match O a with
    | some (.lst xs) => match xs[xs.length - 1]? with
      | some d => Q d (updO O a (.lst xs.dropLast))
      | none => False
    | _ => False
  | _, _ => False
theorem RepAll.dropLast {K : PySem.W.Frag} {F : Hp} {ds : List D} {vs : List V} (h : RepAll K F ds vs) : RepAll K F ds.dropLast vs.dropLast := by
  rw [List.dropLast_eq_take, List.dropLast_eq_take, h.length]
  exact h.take _
theorem md_pop : MtD M X "list.pop" rPopD := by
  refine mtD_of fun F P H O x xs dx ds R Q g r1 r2 q po => ?_
  unfold rPopD at q
  split at q
  · rename_i a
    simp only [RepAll] at r2
    subst r2
    simp only [Rep] at r1
    subst r1
    cases e : O a with
    | none => rw [e] at q; exact q.elim
    | some c =>
      rw [e] at q
      cases c with
      | pool => exact q.elim
      | dic _ => exact q.elim
      | dicL _ _ => exact q.elim
      | exc _ _ => exact q.elim
      | ins _ _ => exact q.elim
      | lst zs =>
        dsimp only at q
        obtain ⟨_, _, vs, h1, h2⟩ := g.ow a _ e
        cases e2 : zs[zs.length - 1]? with
        | none => rw [e2] at q; exact q.elim
        | some d =>
          rw [e2] at q
          obtain ⟨v, e3, r3⟩ := h2.get e2
          refine ⟨_, mt_pop, a, vs, v, rfl, rfl, h1, by rw [← h2.length]; exact e3, ?_⟩
          exact po d _ F _ _ q (Same.refl _) (g.setO e ⟨_, upd_same, h2.dropLast⟩) r3
  · exact q.elim
/-- sep.join(xs) -/
def asStrs : List D → Option (List Str)
  | [] => some []
  | .str i :: ds => (asStrs ds).map (i :: ·)
  | _ :: _ => none
theorem asStrs_map (ns : List Str) : asStrs (ns.map D.str) = some ns := by
  induction ns with
  | nil => rfl
  | cons n ns ih => rw [List.map_cons, asStrs, ih]; rfl
end
end Kf
namespace Kf
open PySem PySem.Spec L2
open PyProof.Rows hiding St
variable {M : MX}

/-! ### statements -/
structure DEnds where
  nx : DEnv → Ow → Prop
  rt : VD
  bk : DEnv → Ow → Prop := fun _ _ => False
  ct : DEnv → Ow → Prop := fun _ _ => False
abbrev GS := DEnds → DEnv → Ow → Prop
def PostN (M : MX) (K : PySem.W.Frag) (F P : Hp) (R : DEnv → Ow → Prop) (Q : L2.St → Hp → Prop) : Prop := ∀ ρ O' F' H' σ, R ρ O' → Same F F' → Gd M K F' O' P H' → EnvOk K F' ρ σ → Q σ H'
structure PostS (M : MX) (K : PySem.W.Frag) (F P : Hp) (R : DEnds) (D : Ends) : Prop where
  nx : PostN M K F P R.nx D.nx
  rt : PostE M K F P R.rt D.rt
  bk : PostN M K F P R.bk D.bk
  ct : PostN M K F P R.ct D.ct
theorem PostN.more {K : PySem.W.Frag} {F F' P : Hp} {R : DEnv → Ow → Prop} {Q : L2.St → Hp → Prop} (po : PostN M K F P R Q) (s : Same F F') : PostN M K F' P R Q := fun ρ O' F2 H' σ q s2 g en => po ρ O' F2 H' σ q (s.trans s2) g en
theorem PostS.more {K : PySem.W.Frag} {F F' P : Hp} {R : DEnds} {D : Ends} (po : PostS M K F P R D) (s : Same F F') : PostS M K F' P R D := ⟨po.nx.more s, po.rt.more s, po.bk.more s, po.ct.more s⟩
def liftS (M : MX) (K : PySem.W.Frag) (g : GS) : TS := fun D σ H => ∃ F O P ρ R, Gd M K F O P H ∧ EnvOk K F ρ σ ∧ g R ρ O ∧ PostS M K F P R D
abbrev DS (M : MX) (X : Cx) (st : Stmt) (g : GS) : Prop := PS X st (liftS M X.K g)
abbrev DSs (M : MX) (X : Cx) (st : List Stmt) (g : GS) : Prop := PSs X st (liftS M X.K g)

section
variable {X : Cx} {st : Stmt} {rest : List Stmt} {g u : GS} {e c : Expr} {fe : FE} {ft : FT} {pos : Pos}
def gNext : GS := fun R ρ O => R.nx ρ O
def gSeq (g u : GS) : GS := fun R ρ O => g { R with nx := u R } ρ O
theorem dss_nil : DSs M X [] gNext := pssMono pss_nil fun D σ H h => by
  obtain ⟨F, O, P, ρ, R, g, en, q, po⟩ := h
  exact po.nx ρ O F H σ q (Same.refl _) g en
theorem dss_cons (h1 : DS M X st g) (h2 : DSs M X rest u) : DSs M X (st :: rest) (gSeq g u) := pssMono (pss_cons h1 h2) fun D σ H h => by
  obtain ⟨F, O, P, ρ, R, g, en, q, po⟩ := h
  exact ⟨F, O, P, ρ, { R with nx := u R }, g, en, q, fun ρ' O' F' H' σ' q' s g' en' => ⟨F', O', P, ρ', R, g', en', q', po.more s⟩, po.rt, po.bk, po.ct⟩
theorem dss_one (h1 : DS M X st g) : DSs M X [st] g := pss_one h1
/-- what is never come to -/
def gNever : GS := fun _ _ _ => False
def gBreak : GS := fun R ρ O => R.bk ρ O
def gDrop (fe : FE) : GS := fun R ρ O => fe ρ O fun _ O1 => R.nx ρ O1
theorem ds_expr (he : DE M X e fe) (hs : swapsWith e none pos.line X.env = pure false := by rfl) : DS M X (.Expr e pos) (gDrop fe) := psMono (ps_expr he hs) fun D σ H h => by
  obtain ⟨F, O, P, ρ, R, g, en, q, po⟩ := h
  exact ⟨F, O, P, ρ, _, g, en, q, fun d O1 F1 H1 v q1 s1 g1 _ => po.nx ρ O1 F1 H1 σ q1 s1 g1 (en.mono s1)⟩
def gRet (fe : FE) : GS := fun R ρ O => fe ρ O R.rt
theorem ds_ret (he : DE M X e fe) : DS M X (.Return (some e) pos) (gRet fe) := psMono (ps_ret he) fun D σ H h => by
  obtain ⟨F, O, P, ρ, R, g, en, q, po⟩ := h
  exact ⟨F, O, P, ρ, R.rt, g, en, q, po.rt⟩
/-- an owned list is handed back: from now on it never changes -/
def gRetF (fe : FE) : GS := fun R ρ O => fe ρ O fun d O1 => match d with
  | .ref a => match O1 a with
    | some (.lst ds) => R.rt (.lst ds) (delO O1 a)
    | _ => False
  | _ => False
theorem ds_retF (he : DE M X e fe) : DS M X (.Return (some e) pos) (gRetF fe) := psMono (ps_ret he) fun D σ H h => by
  obtain ⟨F, O, P, ρ, R, g, en, q, po⟩ := h
  refine ⟨F, O, P, ρ, _, g, en, q, fun d O1 F1 H1 v q1 s1 g1 r1 => ?_⟩
  split at q1 <;> first | exact q1.elim | skip
  rename_i a
  split at q1 <;> first | exact q1.elim | skip
  rename_i ds e1
  simp only [Rep] at r1
  subst r1
  obtain ⟨F2, s2, g2, r2⟩ := g1.freeze e1
  exact po.rt (.lst ds) (delO O1 a) F2 H1 (.ref a) q1 (s1.trans s2) g2 r2
def gRetN : GS := fun R _ O => R.rt .non O
def gIf (c : FT) (g u : GS) : GS := fun R ρ O => c ρ O fun b O1 => if b = true then g R ρ O1 else u R ρ O1
theorem ds_if {a b : List Stmt} (hc : DT M X c ft) (ha : DSs M X a g) (hb : DSs M X b u) : DS M X (.If c a b pos) (gIf ft g u) := psMono (ps_if hc ha hb) fun D σ H h => by
  obtain ⟨F, O, P, ρ, R, g, en, q, po⟩ := h
  refine ⟨F, O, P, ρ, _, g, en, q, fun k O1 F1 H1 q1 s1 g1 => ?_⟩
  cases k with
  | true => rw [if_pos rfl] at q1 ⊢; exact ⟨F1, O1, P, ρ, R, g1, en.mono s1, q1, po.more s1⟩
  | false => rw [if_neg Bool.false_ne_true] at q1 ⊢; exact ⟨F1, O1, P, ρ, R, g1, en.mono s1, q1, po.more s1⟩
theorem EnvOk.frz {K : PySem.W.Frag} {F F' : Hp} {ρ : DEnv} {σ : L2.St} {i : Nat} {a : Addr} {d : D} (h : EnvOk K F ρ σ) (s : Same F F') (e : ρ[i]? = some (some (.ref a))) (r : Rep K F' d (.ref a)) : EnvOk K F' (ρ.set i (some d)) σ := by
  obtain ⟨v, e1, r1⟩ := h.2 i _ e
  simp only [Rep] at r1
  subst r1
  refine ⟨by rw [List.length_set]; exact h.1, fun j d' q => ?_⟩
  by_cases c : i = j
  · subst c
    by_cases hl : i < ρ.length
    · rw [List.getElem?_set_self hl] at q
      cases q
      exact ⟨.ref a, e1, r⟩
    · rw [List.getElem?_eq_none (by rw [List.length_set]; omega)] at q; cases q
  · rw [List.getElem?_set_ne c] at q
    exact (h.mono s).2 j d' q
/-! ### targets -/
inductive Pat where
  | nm (i : Nat)
  | tp (ps : List Pat)
mutual
def patT (K : PySem.W.Frag) : Pat → TG
  | .nm i => gName i
  | .tp ps => gTup K ps.length (patTs K ps)
def patTs (K : PySem.W.Frag) : List Pat → TGs
  | [] => gNil
  | p :: ps => gCons (patT K p) (patTs K ps)
end
mutual
def patD : Pat → D → DEnv → Option DEnv
  | .nm i, d, ρ => some (ρ.set i (some d))
  | .tp ps, .tup ds, ρ => patDs ps ds ρ
  | .tp _, _, _ => none
def patDs : List Pat → List D → DEnv → Option DEnv
  | [], [], ρ => some ρ
  | p :: ps, d :: ds, ρ => (patD p d ρ).bind (patDs ps ds)
  | _, _, _ => none
end
mutual
def patI : Pat → List Nat
  | .nm i => [i]
  | .tp ps => patIs ps
def patIs : List Pat → List Nat
  | [] => []
  | p :: ps => patI p ++ patIs ps
end
/-- the two states are alike but at some slots -/
def Off (vs : List Nat) (σ σ' : L2.St) : Prop := σ.length = σ'.length ∧ ∀ i, i ∉ vs → σ'[i]? = σ[i]?
theorem patDs_length : ∀ {ps : List Pat} {ds : List D} {ρ ρ' : DEnv}, patDs ps ds ρ = some ρ' → ps.length = ds.length
  | [], [], _, _, _ => rfl
  | [], _ :: _, _, _, h => by simp only [patDs] at h; cases h
  | _ :: _, [], _, _, h => by simp only [patDs] at h; cases h
  | p :: ps, d :: ds, ρ, ρ', h => by
    simp only [patDs] at h
    obtain ⟨ρ1, h1, h2⟩ := Option.bind_eq_some_iff.mp h
    rw [List.length_cons, List.length_cons, patDs_length h2]
mutual
theorem pat_ok {K : PySem.W.Frag} {F P H : Hp} {O : Ow} (gd : Gd M K F O P H) : ∀ (p : Pat) (d : D) (v : V) (ρ ρ' : DEnv) (σ : L2.St) (Q : L2.St → Hp → Prop), patD p d ρ = some ρ' → Rep K F d v → EnvOk K F ρ σ →
    (∀ σ', EnvOk K F ρ' σ' → Off (patI p) σ σ' → Q σ' H) → patT K p v σ H Q
  | .nm i, d, v, ρ, ρ', σ, Q, h, r, en, q => by
    simp only [patD] at h
    cases h
    simp only [patT]
    refine q _ (en.set r i) ⟨by rw [List.length_set], fun j hj => ?_⟩
    simp only [patI, List.mem_singleton] at hj
    rw [List.getElem?_set_ne (fun e => hj e.symm)]
  | .tp ps, d, v, ρ, ρ', σ, Q, h, r, en, q => by
    cases d <;> simp only [patD] at h <;> first | cases h | skip
    simp only [Rep] at r
    obtain ⟨a, xs, rfl, r1, r2⟩ := r
    simp only [patT]
    refine ⟨a, xs, rfl, Same.seqT gd.fz r1, ?_, ?_⟩
    · rw [← r2.length, patDs_length h]
    · exact pats_ok gd ps _ xs ρ ρ' σ Q h r2 en fun σ' en' off => q σ' en' (by simpa only [patI] using off)
theorem pats_ok {K : PySem.W.Frag} {F P H : Hp} {O : Ow} (gd : Gd M K F O P H) : ∀ (ps : List Pat) (ds : List D) (vs : List V) (ρ ρ' : DEnv) (σ : L2.St) (Q : L2.St → Hp → Prop), patDs ps ds ρ = some ρ' → RepAll K F ds vs → EnvOk K F ρ σ →
    (∀ σ', EnvOk K F ρ' σ' → Off (patIs ps) σ σ' → Q σ' H) → patTs K ps vs σ H Q
  | [], [], vs, ρ, ρ', σ, Q, h, r, en, q => by
    simp only [patDs] at h
    cases h
    simp only [RepAll] at r
    subst r
    simp only [patTs]
    exact ⟨rfl, q σ en ⟨rfl, fun _ _ => rfl⟩⟩
  | [], _ :: _, _, _, _, _, _, h, _, _, _ => by simp only [patDs] at h; cases h
  | _ :: _, [], _, _, _, _, _, h, _, _, _ => by simp only [patDs] at h; cases h
  | p :: ps, d :: ds, vs, ρ, ρ', σ, Q, h, r, en, q => by
    simp only [patDs] at h
    obtain ⟨ρ1, h1, h2⟩ := Option.bind_eq_some_iff.mp h
    simp only [RepAll] at r
    obtain ⟨v, ws, rfl, r1, r2⟩ := r
    simp only [patTs]
    refine ⟨v, ws, rfl, ?_⟩
    refine pat_ok gd p d v ρ ρ1 σ _ h1 r1 en fun σ1 en1 off1 => ?_
    refine pats_ok gd ps ds ws ρ1 ρ' σ1 Q h2 r2 en1 fun σ2 en2 off2 => q σ2 en2 ⟨off1.1.trans off2.1, fun i hi => ?_⟩
    simp only [patIs, List.mem_append, not_or] at hi
    rw [off2.2 i hi.2, off1.2 i hi.1]
end
abbrev DP (X : Cx) (tg : Expr) (p : Pat) : Prop := PG X tg (patT X.K p)
abbrev DPs (X : Cx) (tgs : List Expr) (ps : List Pat) : Prop := PGs X tgs (patTs X.K ps)
theorem dp_name {i : Nat} {x : Str} (hN : X.N.Nodup) (hi : X.N[i]? = some x) (hx : Loc X.env.scope x) (hf : X.fn x = true ∨ X.env.scope.names.lookup x = some .local := by first | exact .inl rfl | exact .inr rfl | assumption) : DP X (.Name x pos) (.nm i) := by
  show PG X _ (patT X.K (.nm i))
  rw [show patT X.K (.nm i) = gName i by simp only [patT]]
  exact pg_name hN hi hx hf
theorem dps_nil : DPs X [] [] := by
  show PGs X _ (patTs X.K [])
  rw [show patTs X.K [] = gNil by simp only [patTs]]
  exact pgs_nil
theorem dps_cons {e : Expr} {es : List Expr} {p : Pat} {ps : List Pat} (h1 : DP X e p) (h2 : DPs X es ps)
    (hs : (assignEach (e :: es) X.env).map (·.2) = assign e X.env :: (assignEach es X.env).map (·.2) := by rfl) : DPs X (e :: es) (p :: ps) := by
  show PGs X _ (patTs X.K (p :: ps))
  rw [show patTs X.K (p :: ps) = gCons (patT X.K p) (patTs X.K ps) by simp only [patTs]]
  exact pgs_cons h1 h2 hs
theorem dp_tup {es : List Expr} {k : Nat} {ps : List Pat} (hc : X.calm = true) (h : DPs X es ps)
    (hn : (assignEach es X.env).length = ps.length := by rfl) (hst : (assignEach es X.env).findIdx? (·.1) = none := by rfl) : DP X (.Tuple es k pos) (.tp ps) := by
  show PG X _ (patT X.K (.tp ps))
  rw [show patT X.K (.tp ps) = gTup X.K ps.length (patTs X.K ps) by simp only [patT]]
  exact pg_tup hc h hn hst
def patGet (o : Option DEnv) (N : DEnv → Prop) : Prop := match o with
  | some ρ => N ρ
  | none => False
theorem patGet_s {ρ : DEnv} {N : DEnv → Prop} : patGet (some ρ) N = N ρ := rfl
/-- target = value -/
def gAsg (fe : FE) (p : Pat) : GS := fun R ρ O => fe ρ O fun d O1 => patGet (patD p d ρ) fun ρ' => R.nx ρ' O1
theorem ds_asg {tg e : Expr} {p : Pat} (he : DE M X e fe) (hg : DP X tg p) (hs : swapsWithSole [tg] e pos.line X.env = pure false := by rfl) (hw : swappedStores [tg] e X.env = pure none := by rfl) (h1 : (assignEach [tg] X.env).map (·.2) = [assign tg X.env] := by rfl) : DS M X (.Assign [tg] e pos) (gAsg fe p) :=
  psMono (ps_asg he hg hs hw h1) fun D σ H h => by
    obtain ⟨F, O, P, ρ, R, g, en, q, po⟩ := h
    refine ⟨F, O, P, ρ, _, g, en, q, fun d O1 F1 H1 v q1 s1 g1 r1 => ?_⟩
    cases e1 : patD p d ρ with
    | none => rw [e1] at q1; exact q1.elim
    | some ρ' =>
      rw [e1] at q1
      exact pat_ok g1 p d v ρ ρ' σ _ e1 r1 (en.mono s1) fun σ' en' _ => po.nx ρ' O1 F1 H1 σ' q1 s1 g1 en'
/-- name = value -/
def gSet (fe : FE) (i : Nat) : GS := fun R ρ O => fe ρ O fun d O1 => R.nx (ρ.set i (some d)) O1
theorem gSet_lift {te : TE} {i : Nat} (hl : ∀ σ H Q, liftE M X.K fe σ H Q → te σ H Q) : ∀ D σ H, liftS M X.K (gSet fe i) D σ H → tAsg te (gName i) D σ H := fun D σ H h => by
  obtain ⟨F, O, P, ρ, R, g, en, q, po⟩ := h
  exact hl _ _ _ ⟨F, O, P, ρ, _, g, en, q, fun d O1 F1 H1 v q1 s1 g1 r1 => po.nx _ O1 F1 H1 _ q1 s1 g1 ((en.mono s1).set r1 i)⟩
theorem ds_set {i : Nat} {x : Str} {e : Expr} {pos' : Pos} (hN : X.N.Nodup) (hi : X.N[i]? = some x) (hx : Loc X.env.scope x) (he : DE M X e fe) (hs : swapsWith e (some (.Name x pos')) pos.line X.env = pure false := by rfl) (hf : X.fn x = true ∨ X.env.scope.names.lookup x = some .local := by first | exact .inl rfl | exact .inr rfl | assumption) :
    DS M X (.Assign [.Name x pos'] e pos) (gSet fe i) := psMono (ps_set hN hi hx he hs hf) (gSet_lift fun _ _ _ q => q)
/-- name op= e -/
def gAug (i : Nat) (fe : FE) (r : R2D) : GS := fun R ρ O => match ρ[i]? with
  | some (some x) => fe ρ O fun y O1 => r x y O1 fun z O2 => R.nx (ρ.set i (some z)) O2
  | _ => False
/-- o[i] = v, an owned list -/
def rSetD (x y d : D) (O : Ow) (N : Ow → Prop) : Prop := match x, y with
  | .ref a, .int k => match O a with
    | some (.lst ds) => match ixN ds.length k with
      | some j => N (updO O a (.lst (ds.set j d)))
      | none => False
    | some .pool => match d with
      | .int z => ((k = 0 ∧ 0 ≤ z) ∨ (k = 1 ∧ 0 ≤ z ∧ z < 2147483647)) ∧ N O
      | _ => False
    | _ => False
  | _, _ => False
def gSetIx (fo fi fe : FE) : GS := fun R ρ O => fe ρ O fun d O1 => fo ρ O1 fun x O2 => fi ρ O2 fun y O3 => rSetD x y d O3 (R.nx ρ)
theorem ds_setIx {o i e : Expr} {fo fi : FE} {p1 : Pos} (ho : DE M X o fo) (hi : DE M X i fi) (he : DE M X e fe)
    (ha : ∀ v, assign (.Subscript o i p1) X.env v = (do
      let ov ← holding [v] (eval o X.env)
      let iv ← holding [v, ov] (eval i X.env)
      standAt p1
      holding [v, ov, iv] (setItem ov iv v)
      release [v, ov, iv] []) := by intro _; rfl)
    (hs : swapsWithSole [.Subscript o i p1] e pos.line X.env = pure false := by rfl) (hw : swappedStores [.Subscript o i p1] e X.env = pure none := by rfl) : DS M X (.Assign [.Subscript o i p1] e pos) (gSetIx fo fi fe) :=
  psMono (ps_asg he (pg_sub ho hi set_list ha) hs hw) fun D σ H h => by
    obtain ⟨F, O, P, ρ, R, g, en, q, po⟩ := h
    refine ⟨F, O, P, ρ, _, g, en, q, fun d O1 F1 H1 v q1 s1 g1 r1 => ?_⟩
    refine ⟨F1, O1, P, ρ, _, g1, en.mono s1, q1, fun x O2 F2 H2 w q2 s2 g2 r2 => ?_⟩
    refine ⟨F2, O2, P, ρ, _, g2, en.mono (s1.trans s2), q2, fun y O3 F3 H3 z q3 s3 g3 r3 => ?_⟩
    unfold rSetD at q3
    cases x <;> first | exact q3.elim | skip
    cases y <;> first | exact q3.elim | skip
    rename_i a k
    simp only [Rep] at r2 r3
    subst r2 r3
    dsimp only at q3
    cases e1 : O3 a with
    | none => rw [e1] at q3; exact q3.elim
    | some c =>
      rw [e1] at q3
      cases c with
      | dic kvs => exact q3.elim
      | dicL _ _ => exact q3.elim
      | exc _ _ => exact q3.elim
      | ins _ _ => exact q3.elim
      | pool =>
        dsimp only at q3
        cases d <;> first | exact q3.elim | skip
        simp only [Rep] at r1
        subst r1
        obtain ⟨_, _, z, y, hH, h2, h3, h4⟩ := g3.ow a _ e1
        obtain ⟨q4, q5⟩ := q3
        have s4 := s1.trans (s2.trans s3)
        rcases q4 with ⟨rfl, h5⟩ | ⟨rfl, h5, h6⟩
        · refine ⟨a, _, 0, 0, rfl, rfl, hH, rfl, ?_⟩
          have g4 := g3.setO e1 (o := .lst [.int _, .int y]) (c := .pool) ⟨_, y, upd_same, h5, h3, h4⟩
          rw [updO_self e1] at g4
          exact po.nx ρ _ F3 _ σ q5 s4 g4 (en.mono s4)
        · refine ⟨a, _, 1, 1, rfl, rfl, hH, rfl, ?_⟩
          have g4 := g3.setO e1 (o := .lst [.int z, .int _]) (c := .pool) ⟨z, _, upd_same, h2, h5, h6⟩
          rw [updO_self e1] at g4
          exact po.nx ρ _ F3 _ σ q5 s4 g4 (en.mono s4)
      | lst ds =>
        dsimp only at q3
        cases e2 : ixN ds.length k with
        | none => rw [e2] at q3; exact q3.elim
        | some j =>
          rw [e2] at q3
          obtain ⟨_, _, vs, h1, h2⟩ := g3.ow a _ e1
          refine ⟨a, vs, k, j, rfl, rfl, h1, by rw [← h2.length]; exact e2, ?_⟩
          exact po.nx ρ _ F3 _ σ q3 (s1.trans (s2.trans s3)) (g3.setO e1 ⟨_, upd_same, h2.set (r1.mono (s2.trans s3)) j⟩) (en.mono (s1.trans (s2.trans s3)))

/-! ### what is walked -/
/-- the walk yields just these, whatever comes meanwhile -/
def ItOk (M : MX) (K : PySem.W.Frag) (F : Hp) (J : It) (ds : List D) : Prop := ∀ F' O' P' H', Same F F' → Gd M K F' O' P' H' → ∀ i : Nat,
  (∀ d, ds[i]? = some d → J.go i H' ∧ ∀ x H'', J.yld i H' x H'' → ∃ F'', Same F' F'' ∧ Gd M K F'' O' P' H'' ∧ Rep K F'' d x) ∧ (ds.length ≤ i → J.stop i H')
abbrev FI := DEnv → Ow → (List D → Ow → Prop) → Prop
def liftI (M : MX) (K : PySem.W.Frag) (f : FI) : TI := fun σ H Q => ∃ F O P ρ R, Gd M K F O P H ∧ EnvOk K F ρ σ ∧ f ρ O R ∧ ∀ ds O' F' H' J, R ds O' → Same F F' → Gd M K F' O' P H' → ItOk M K F' J ds → Q J H'
abbrev DI (M : MX) (X : Cx) (tg iter : Expr) (f : FI) : Prop := PI X tg iter (liftI M X.K f)
theorem piMono {X : Cx} {tg iter : Expr} {t t' : TI} (h : PI X tg iter t) (imp : ∀ σ H Q, t' σ H Q → t σ H Q) : PI X tg iter t' := ⟨fun pins s σ H Q I q => h.run pins s σ H Q I (imp σ H Q q)⟩
variable {tg iter l : Expr} {fl : FE} {fr : FA}
def asL (d : D) (O : Ow) (Q : List D → Ow → Prop) : Prop := match d with
  | .lst ds => Q ds O
  | _ => False
def asT (d : D) (O : Ow) (Q : List D → Ow → Prop) : Prop := match d with
  | .tup ds => Q ds O
  | _ => False
def asSg (d : D) (O : Ow) (Q : List D → Ow → Prop) : Prop := match d with
  | .str x => Q (x.cps.toList.map fun c => .str ⟨#[c]⟩) O
  | _ => False
def asR1 (ds : List D) (O : Ow) (Q : Int → Nat → Ow → Prop) : Prop := match ds with
  | [.int j] => -(2 ^ 62) ≤ j ∧ j < 2 ^ 62 ∧ Q 0 j.toNat O
  | _ => False
def asR2 (ds : List D) (O : Ow) (Q : Int → Nat → Ow → Prop) : Prop := match ds with
  | [.int i, .int j] => (-(2 ^ 62) ≤ i ∧ i < 2 ^ 62 ∧ -(2 ^ 62) ≤ j ∧ j < 2 ^ 62) ∧ Q i (j - i).toNat O
  | _ => False
def asL1 (ds : List D) (O : Ow) (Q : List D → Ow → Prop) : Prop := match ds with
  | [.lst ds] => Q ds O
  | _ => False
def asL2 (ds : List D) (O : Ow) (Q : List D → List D → Ow → Prop) : Prop := match ds with
  | [.lst ds, .lst es] => Q ds es O
  | _ => False
section
variable {O : Ow} {xs ys : List D} {i j : Int}
theorem asL_l {Q : List D → Ow → Prop} : asL (.lst xs) O Q = Q xs O := rfl
theorem asT_t {Q : List D → Ow → Prop} : asT (.tup xs) O Q = Q xs O := rfl
theorem asSg_s {Q : List D → Ow → Prop} {x : Str} : asSg (.str x) O Q = Q (x.cps.toList.map fun c => .str ⟨#[c]⟩) O := rfl
theorem asR1_i {Q : Int → Nat → Ow → Prop} : asR1 [.int j] O Q = (-(2 ^ 62) ≤ j ∧ j < 2 ^ 62 ∧ Q 0 j.toNat O) := rfl
theorem asR2_i {Q : Int → Nat → Ow → Prop} : asR2 [.int i, .int j] O Q = ((-(2 ^ 62) ≤ i ∧ i < 2 ^ 62 ∧ -(2 ^ 62) ≤ j ∧ j < 2 ^ 62) ∧ Q i (j - i).toNat O) := rfl
theorem asL1_l {Q : List D → Ow → Prop} : asL1 [.lst xs] O Q = Q xs O := rfl
theorem asL2_l {Q : List D → List D → Ow → Prop} : asL2 [.lst xs, .lst ys] O Q = Q xs ys O := rfl
end
/-- a list -/
def fiList (fl : FE) : FI := fun ρ O Q => fl ρ O fun d O1 => asL d O1 Q
theorem di_list (hl : DE M X l fl) : DI M X tg l (fiList fl) := piMono (pi_list hl) fun σ H Q h => by
  obtain ⟨F, O, P, ρ, R, g, en, q, po⟩ := h
  refine ⟨F, O, P, ρ, _, g, en, q, fun d O1 F1 H1 v q1 s1 g1 r1 => ?_⟩
  unfold asL at q1
  cases d <;> first | exact q1.elim | skip
  rename_i ds
  simp only [Rep] at r1
  obtain ⟨a, xs, rfl, h1, h2⟩ := r1
  refine ⟨a, rfl, ⟨xs, SqL.of (g1.fz _ _ h1)⟩, po ds O1 F1 H1 _ q1 s1 g1 fun F2 O2 P2 H2 s2 g2 i => ⟨fun d e => ?_, fun hi => ?_⟩⟩
  · have sq : SqL X.K H2 a xs := SqL.of (g2.fz _ _ (s2 _ _ h1))
    obtain ⟨w, e1, r1⟩ := h2.get e
    refine ⟨⟨xs, w, sq, e1⟩, fun x H3 hy => ?_⟩
    obtain ⟨rfl, hx⟩ := hy
    have := hx xs sq
    rw [e1] at this
    cases this
    exact ⟨F2, Same.refl _, g2, r1.mono s2⟩
  · exact ⟨xs, SqL.of (g2.fz _ _ (s2 _ _ h1)), by rw [← h2.length]; exact hi⟩
/-- a tuple -/
def fiTup (fl : FE) : FI := fun ρ O Q => fl ρ O fun d O1 => asT d O1 Q
theorem SqT.uniq {K : PySem.W.Frag} {F : Hp} {a : Addr} {xs ys : List V} (h : SqT K F a xs) (h' : SqT K F a ys) (hk : ∀ o, K.lookup a = some o → F a = none) : xs = ys := by
  rcases h with (h | ⟨o, h⟩) | ⟨o, its, n, h1, h2, h3, h4, h5⟩
  · rcases h' with (h' | ⟨o', h'⟩) | ⟨o', its', n', h1', _⟩
    · rw [h] at h'; cases h'; rfl
    · rw [h] at h'; cases h'
    · rw [hk _ h1'] at h; cases h
  · rcases h' with (h' | ⟨o', h'⟩) | ⟨o', its', n', h1', _⟩
    · rw [h] at h'; cases h'
    · rw [h] at h'; cases h'; rfl
    · rw [hk _ h1'] at h; cases h
  · rcases h' with (h' | ⟨o', h'⟩) | ⟨o', its', n', h1', h2', h3', h4', h5'⟩
    · rw [hk _ h1] at h'; cases h'
    · rw [hk _ h1] at h'; cases h'
    · rw [h1] at h1'; cases h1'
      rw [h3] at h3'; cases h3'
      exact Vals.inj h5 h5'
theorem di_tup (hl : DE M X l fl) : DI M X tg l (fiTup fl) := piMono (pi_tup hl) fun σ H Q h => by
  obtain ⟨F, O, P, ρ, R, g, en, q, po⟩ := h
  refine ⟨F, O, P, ρ, _, g, en, q, fun d O1 F1 H1 v q1 s1 g1 r1 => ?_⟩
  unfold asT at q1
  cases d <;> first | exact q1.elim | skip
  rename_i ds
  simp only [Rep] at r1
  obtain ⟨a, xs, rfl, h1, h2⟩ := r1
  refine ⟨a, rfl, ⟨xs, Same.seqT g1.fz h1⟩, po ds O1 F1 H1 _ q1 s1 g1 fun F2 O2 P2 H2 s2 g2 i => ⟨fun d e => ?_, fun hi => ?_⟩⟩
  · have sq : SqT X.K H2 a xs := Same.seqT g2.fz (Same.seqT s2 h1)
    obtain ⟨w, e1, r1⟩ := h2.get e
    refine ⟨⟨xs, w, sq, e1⟩, fun x H3 hy => ?_⟩
    obtain ⟨rfl, hx⟩ := hy
    have := hx xs sq
    rw [e1] at this
    cases this
    exact ⟨F2, Same.refl _, g2, r1.mono s2⟩
  · exact ⟨xs, Same.seqT g2.fz (Same.seqT s2 h1), by rw [← h2.length]; exact hi⟩
/-- range(n), range(a, b) -/
def rangeD (lo : Int) (n : Nat) : List D := (List.range n).map fun i => .int (lo + (i : Nat))
theorem itOk_range {K : PySem.W.Frag} {F : Hp} (lo : Int) (n : Nat) : ItOk M K F (Itr lo n) (rangeD lo n) := fun F2 O2 P2 H2 s2 g2 i => by
  refine ⟨fun d e => ?_, fun hi => ?_⟩
  · unfold rangeD at e
    rw [List.getElem?_map] at e
    obtain ⟨j, e1, e2⟩ := Option.map_eq_some_iff.mp e
    have hi : i < n := by
      have := List.getElem?_eq_some_iff.mp e1
      obtain ⟨h, _⟩ := this
      simpa using h
    have hj : j = i := by
      rw [List.getElem?_range hi] at e1
      exact (Option.some.inj e1).symm
    subst hj
    subst e2
    refine ⟨hi, fun x H3 hy => ?_⟩
    obtain ⟨rfl, rfl⟩ := hy
    exact ⟨F2, Same.refl _, g2, by simp only [Rep]⟩
  · unfold rangeD at hi
    rw [List.length_map, List.length_range] at hi
    exact hi
def fiRng1 (fr : FA) : FI := fun ρ O Q => fr ρ O fun ds O1 => asR1 ds O1 fun i n O2 => Q (rangeD i n) O2
theorem di_range1 {a : Expr} {p : Pos} (hg : Gl X "range") (hm : X.mg "range" = none) (ha : DA M X [a] fr) (hs : starEach [a] X.env = [(false, eval a X.env)] := by rfl) : DI M X tg (.Call (.Name "range" p) [a] [] pos) (fiRng1 fr) :=
  piMono (pi_range1 hg hm ha hs) fun σ H Q h => by
    obtain ⟨F, O, P, ρ, R, g, en, q, po⟩ := h
    refine ⟨F, O, P, ρ, _, g, en, q, fun ds O1 F1 H1 vs q1 s1 g1 r1 => ?_⟩
    unfold asR1 at q1
    split at q1
    · obtain ⟨v, rfl, r1'⟩ := r1.one'
      simp only [Rep] at r1'
      exact ⟨_, by rw [r1'], q1.1, q1.2.1, po _ O1 F1 H1 _ q1.2.2 s1 g1 (itOk_range 0 _)⟩
    · exact q1.elim
def fiRng2 (fr : FA) : FI := fun ρ O Q => fr ρ O fun ds O1 => asR2 ds O1 fun i n O2 => Q (rangeD i n) O2
def fiStr (fl : FE) : FI := fun ρ O Q => fl ρ O fun d O1 => asSg d O1 Q
/-- enumerate(xs) -/
def enumD (ds : List D) : List D := ds.zipIdx.map fun p => .tup [.int (p.2 : Nat), p.1]
theorem enumD_get (ds : List D) (i : Nat) : (enumD ds)[i]? = ds[i]?.map fun d => .tup [.int (i : Nat), d] := by
  unfold enumD
  rw [List.getElem?_map, List.getElem?_zipIdx]
  cases ds[i]? with
  | none => rfl
  | some d => simp
theorem enumD_length (ds : List D) : (enumD ds).length = ds.length := by unfold enumD; rw [List.length_map, List.length_zipIdx]
def fiEnum (fr : FA) : FI := fun ρ O Q => fr ρ O fun ds O1 => asL1 ds O1 fun ds O2 => Q (enumD ds) O2
theorem di_enum {e : Expr} {p tpos : Pos} {elts : List Expr} {kk : Nat} (hg : Gl X "enumerate") (hm : X.mg "enumerate" = none) (ha : DA M X [e] fr) (hs : starEach [e] X.env = [(false, eval e X.env)] := by rfl) :
    DI M X (.Tuple elts kk tpos) (.Call (.Name "enumerate" p) [e] [] pos) (fiEnum fr) := piMono (pi_enum hg hm ha hs) fun σ H Q h => by
  obtain ⟨F, O, P, ρ, R, g, en, q, po⟩ := h
  refine ⟨F, O, P, ρ, _, g, en, q, fun ds O1 F1 H1 vs q1 s1 g1 r1 => ?_⟩
  unfold asL1 at q1
  split at q1
  · rename_i ds
    obtain ⟨v, rfl, r1'⟩ := r1.one'
    simp only [Rep] at r1'
    obtain ⟨a, xs, rfl, h1, h2⟩ := r1'
    refine ⟨a, xs, rfl, SqL.of (g1.fz _ _ h1), po _ O1 F1 H1 _ q1 s1 g1 fun F2 O2 P2 H2 s2 g2 i => ⟨fun d e => ?_, fun hi => ?_⟩⟩
    · rw [enumD_get] at e
      obtain ⟨d0, e0, rfl⟩ := Option.map_eq_some_iff.mp e
      have sq : SqL X.K H2 a xs := SqL.of (g2.fz _ _ (s2 _ _ h1))
      obtain ⟨w, e1, r1⟩ := h2.get e0
      refine ⟨⟨xs, w, sq, e1⟩, fun x H3 hy => ?_⟩
      obtain ⟨T, y, rfl, hT, rfl, hx⟩ := hy
      have hxx := hx xs sq
      rw [e1] at hxx
      cases hxx
      have hF := g2.freeF hT
      refine ⟨upd F2 T (.tup [.int (i : Nat), w]), same_upd hF, g2.new hT, ?_⟩
      simp only [Rep]
      refine ⟨T, _, rfl, .inl (.inl upd_same), .cons (by simp only [Rep]) (.one ((r1.mono s2).mono (same_upd hF)))⟩
    · rw [enumD_length] at hi
      exact ⟨xs, SqL.of (g2.fz _ _ (s2 _ _ h1)), by rw [← h2.length]; exact hi⟩
  · exact q1.elim
/-- zip(xs, ys) -/
def zipD (ds es : List D) : List D := (ds.zip es).map fun p => .tup [p.1, p.2]
def fiZip (fr : FA) : FI := fun ρ O Q => fr ρ O fun ds O1 => asL2 ds O1 fun ds es O2 => Q (zipD ds es) O2
/-- reversed(xs) -/
def fiRev (fr : FA) : FI := fun ρ O Q => fr ρ O fun ds O1 => asL1 ds O1 fun ds O2 => Q ds.reverse O2
theorem di_rev {e : Expr} {p : Pos} (hg : Gl X "reversed") (hm : X.mg "reversed" = none) (ha : DA M X [e] fr) (hs : starEach [e] X.env = [(false, eval e X.env)] := by rfl) : DI M X tg (.Call (.Name "reversed" p) [e] [] pos) (fiRev fr) := piMono (pi_reversed hg hm ha hs) fun σ H Q h => by
  obtain ⟨F, O, P, ρ, R, g, en, q, po⟩ := h
  refine ⟨F, O, P, ρ, _, g, en, q, fun ds O1 F1 H1 vs q1 s1 g1 r1 => ?_⟩
  unfold asL1 at q1
  split at q1
  · rename_i ds
    obtain ⟨v, rfl, r1'⟩ := r1.one'
    simp only [Rep] at r1'
    obtain ⟨a, xs, rfl, h1, h2⟩ := r1'
    refine ⟨a, xs, rfl, SqL.of (g1.fz _ _ h1), po _ O1 F1 H1 _ q1 s1 g1 fun F2 O2 P2 H2 s2 g2 i => ⟨fun d e => ?_, fun hi => ?_⟩⟩
    · have hl : i < ds.length := by
        obtain ⟨h, _⟩ := List.getElem?_eq_some_iff.mp e
        simpa using h
      rw [List.getElem?_reverse hl] at e
      have sq : SqL X.K H2 a xs := SqL.of (g2.fz _ _ (s2 _ _ h1))
      obtain ⟨w, e1, r1⟩ := h2.get e
      rw [h2.length] at e1
      refine ⟨⟨by rw [← h2.length]; exact hl, xs, w, sq, e1⟩, fun x H3 hy => ?_⟩
      obtain ⟨rfl, hx⟩ := hy
      have hxx := hx xs sq
      rw [e1] at hxx
      cases hxx
      exact ⟨F2, Same.refl _, g2, r1.mono s2⟩
    · rw [List.length_reverse, h2.length] at hi
      exact hi
  · exact q1.elim
/-! ### for -/
def forD (p : Pat) (gb : GS) (R : DEnds) : List D → DEnv → Ow → Prop
  | [], ρ, O => R.nx ρ O
  | d :: ds, ρ, O => patGet (patD p d ρ) fun ρ1 => gb { R with nx := forD p gb R ds, ct := forD p gb R ds, bk := R.nx } ρ1 O
def gFor (fi : FI) (p : Pat) (gb : GS) : GS := fun R ρ O => fi ρ O fun ds O1 => forD p gb R ds ρ O1
theorem ds_for {body : List Stmt} {fi : FI} {p : Pat} {gb : GS} (hp : PassesOwn (model X.prog X.w) X.A X.env X.xe) (hc : X.calm = true) (hi : DI M X tg iter fi) (hg : DP X tg p) (hb : DSs M X body gb)
    (hs : ∀ x, foldedSetIterable iter X.env x = pure x := by intro _; rfl) : DS M X (.For tg iter body [] pos) (gFor fi p gb) := psMono (ps_for hp hc hi hg hb hs) fun D σ H h => by
  obtain ⟨F, O, P, ρ, R, g, en, q, po⟩ := h
  refine ⟨F, O, P, ρ, _, g, en, q, fun ds O1 F1 H1 J q1 s1 g1 it => ?_⟩
  refine ⟨fun i m σ H => ∃ F2 O2 ρ2, i + m = ds.length ∧ Same F1 F2 ∧ Gd M X.K F2 O2 P H ∧ EnvOk X.K F2 ρ2 σ ∧ forD p gb R (ds.drop i) ρ2 O2,
    ⟨ds.length, F1, O1, ρ, by omega, Same.refl _, g1, en.mono s1, by rw [List.drop_zero]; exact q1⟩, fun i m σ2 H2 hW => ?_⟩
  obtain ⟨F2, O2, ρ2, hm, s2, g2, en2, q2⟩ := hW
  obtain ⟨it1, it2⟩ := it F2 O2 P H2 s2 g2 i
  by_cases hi : i < ds.length
  · obtain ⟨hgo, hy⟩ := it1 ds[i] (List.getElem?_eq_getElem hi)
    rw [List.drop_eq_getElem_cons hi] at q2
    unfold forD at q2
    refine .inr ⟨hgo, fun σ' H' => ∃ F3 O3 ρ3, Same F1 F3 ∧ Gd M X.K F3 O3 P H' ∧ EnvOk X.K F3 ρ3 σ' ∧ forD p gb R (ds.drop (i + 1)) ρ3 O3, fun σ' H' hN => ?_, fun x H' hyy => ?_⟩
    · obtain ⟨F3, O3, ρ3, s3, g3, en3, q3⟩ := hN
      exact ⟨m - 1, by omega, F3, O3, ρ3, by omega, s3, g3, en3, q3⟩
    · obtain ⟨F3, s3, g3, r3⟩ := hy x H' hyy
      cases e1 : patD p ds[i] ρ2 with
      | none => rw [e1] at q2; exact q2.elim
      | some ρ3 =>
        rw [e1] at q2
        refine pat_ok g3 p ds[i] x ρ2 ρ3 σ2 _ e1 r3 (en2.mono s3) fun σ4 en4 _ => ?_
        refine ⟨F3, O2, P, ρ3, _, g3, en4, q2, ⟨fun ρ5 O5 F5 H5 σ5 q5 s5 g5 en5 => ?_, ?_, ?_, fun ρ5 O5 F5 H5 σ5 q5 s5 g5 en5 => ?_⟩⟩
        · exact ⟨F5, O5, ρ5, s2.trans (s3.trans s5), g5, en5, q5⟩
        · exact po.rt.more (s1.trans (s2.trans s3))
        · exact po.nx.more (s1.trans (s2.trans s3))
        · exact ⟨F5, O5, ρ5, s2.trans (s3.trans s5), g5, en5, q5⟩
  · refine .inl ⟨it2 (by omega), ?_⟩
    rw [List.drop_eq_nil_of_le (by omega)] at q2
    exact po.nx ρ2 O2 F2 H2 σ2 q2 (s1.trans s2) g2 en2
/-! ### while -/
def gWhile (ft : FT) (gb : GS) : GS := fun R ρ O => ∃ I : Nat → DEnv → Ow → Prop, (∃ m, I m ρ O) ∧ ∀ m ρ O, I m ρ O →
  ft ρ O fun b O1 => if b = true then gb { R with nx := fun ρ' O' => ∃ m', m' < m ∧ I m' ρ' O', ct := fun ρ' O' => ∃ m', m' < m ∧ I m' ρ' O', bk := R.nx } ρ O1 else R.nx ρ O1
theorem ds_while {body : List Stmt} {gb : GS} (hp : PassesOwn (model X.prog X.w) X.A X.env X.xe) (hc : DT M X c ft) (hb : DSs M X body gb) : DS M X (.While c body [] pos) (gWhile ft gb) := psMono (ps_while hp hc hb) fun D σ H h => by
  obtain ⟨F, O, P, ρ, R, g, en, ⟨I, ⟨m0, h0⟩, hI⟩, po⟩ := h
  refine ⟨fun m σ H => ∃ F2 O2 ρ2, Same F F2 ∧ Gd M X.K F2 O2 P H ∧ EnvOk X.K F2 ρ2 σ ∧ I m ρ2 O2, ⟨m0, F, O, ρ, Same.refl _, g, en, h0⟩, fun m σ2 H2 hW => ?_⟩
  obtain ⟨F2, O2, ρ2, s2, g2, en2, q2⟩ := hW
  refine ⟨F2, O2, P, ρ2, _, g2, en2, hI m ρ2 O2 q2, fun k O3 F3 H3 q3 s3 g3 => ?_⟩
  cases k with
  | false => rw [if_neg Bool.false_ne_true] at q3 ⊢; exact po.nx ρ2 O3 F3 H3 σ2 q3 (s2.trans s3) g3 (en2.mono s3)
  | true =>
    rw [if_pos rfl] at q3 ⊢
    refine ⟨fun σ' H' => ∃ F4 O4 ρ4, Same F F4 ∧ Gd M X.K F4 O4 P H' ∧ EnvOk X.K F4 ρ4 σ' ∧ ∃ m', m' < m ∧ I m' ρ4 O4, fun σ' H' hN => ?_, ?_⟩
    · obtain ⟨F4, O4, ρ4, s4, g4, en4, m', hm, q4⟩ := hN
      exact ⟨m', hm, F4, O4, ρ4, s4, g4, en4, q4⟩
    · refine ⟨F3, O3, P, ρ2, _, g3, en2.mono s3, q3, ⟨fun ρ5 O5 F5 H5 σ5 q5 s5 g5 en5 => ?_, ?_, ?_, fun ρ5 O5 F5 H5 σ5 q5 s5 g5 en5 => ?_⟩⟩
      · exact ⟨F5, O5, ρ5, s2.trans (s3.trans s5), g5, en5, q5⟩
      · exact po.rt.more (s2.trans s3)
      · exact po.nx.more (s2.trans s3)
      · exact ⟨F5, O5, ρ5, s2.trans (s3.trans s5), g5, en5, q5⟩
end
end Kf
namespace Kf
open PySem PySem.Spec L2
open PyProof.Rows hiding St
variable {M : MX}

/-! ### a thing that stands aside -/
section
variable {K : PySem.W.Frag} {F P H : Hp} {O : Ow} {p : Addr} {o o' : HO}
theorem Gd.aside (g : Gd M K F O P H) (h : H p = none) : Gd M K F O (upd P p o) (upd H p o) := by
  have hF := g.freeF h
  have hO := g.freeO h
  have g' := g.skip (o := o) h
  refine ⟨g'.fz, fun a c e => ?_, fun a u e => ?_, M.mono g.rl (Same.refl _) (same_upd (g.freeP h))⟩
  · have ne : a ≠ p := fun q => by rw [q, hO] at e; cases e
    obtain ⟨h1, h2, h3⟩ := g'.ow a c e
    exact ⟨h1, (upd_ne ne).trans h2, h3⟩
  · by_cases q : a = p
    · subst q; rw [upd_same] at e; cases e; exact ⟨hF, upd_same⟩
    · rw [upd_ne q] at e; exact g'.as a u e
theorem Gd.asideSet (g : Gd M K F O (upd P p o) H) (mk : M.rel F (upd P p o')) : Gd M K F O (upd P p o') (upd H p o') := by
  obtain ⟨hF, hH⟩ := g.as p o upd_same
  refine ⟨fun b x e => ?_, fun a c e => ?_, fun a u e => ?_, mk⟩
  · have ne : b ≠ p := fun q => by rw [q, hF] at e; cases e
    rw [upd_ne ne]; exact g.fz b x e
  · obtain ⟨h1, h2, h3⟩ := g.ow a c e
    have ne : a ≠ p := fun q => by rw [q, upd_same] at h2; cases h2
    rw [upd_ne ne] at h2
    exact ⟨h1, (upd_ne ne).trans h2, h3.mono (Same.refl _) (upd_ne ne)⟩
  · by_cases q : a = p
    · subst q; rw [upd_same] at e; cases e; exact ⟨hF, upd_same⟩
    · rw [upd_ne q] at e
      obtain ⟨h1, h2⟩ := g.as a u ((upd_ne q).trans e)
      exact ⟨h1, (upd_ne q).trans h2⟩
theorem Gd.asideFz (g : Gd M K F O (upd P p o) H) (hP : P p = none) (mk : M.rel F P) : Same F (upd F p o) ∧ Gd M K (upd F p o) O P H := by
  obtain ⟨hF, hH⟩ := g.as p o upd_same
  have s : Same F (upd F p o) := same_upd hF
  refine ⟨s, fun b x e => ?_, fun a c e => ?_, fun a u e => ?_, M.mono mk s (Same.refl _)⟩
  · by_cases q : b = p
    · subst q; rw [upd_same] at e; cases e; exact hH
    · rw [upd_ne q] at e; exact g.fz b x e
  · obtain ⟨h1, h2, h3⟩ := g.ow a c e
    have ne : a ≠ p := fun q => by rw [q, upd_same] at h2; cases h2
    rw [upd_ne ne] at h2
    exact ⟨(upd_ne ne).trans h1, h2, h3.mono s rfl⟩
  · have ne : a ≠ p := fun q => by rw [q, hP] at e; cases e
    obtain ⟨h1, h2⟩ := g.as a u ((upd_ne ne).trans e)
    exact ⟨(upd_ne ne).trans h1, h2⟩
theorem Gd.asideOw (g : Gd M K F O (upd P p o) H) (hP : P p = none) (mk : M.rel F P) {c : Cell} (hc : CellOk K F H p c) : O p = none ∧ Gd M K F (updO O p c) P H := by
  obtain ⟨hF, hH⟩ := g.as p o upd_same
  have hO : O p = none := by
    cases e : O p with
    | none => rfl
    | some c =>
      have q := (g.ow p c e).2.1
      rw [upd_same] at q; cases q
  refine ⟨hO, g.fz, fun a d e => ?_, fun a u e => ?_, mk⟩
  · by_cases q : a = p
    · subst q; rw [updO_same] at e; cases e; exact ⟨hF, hP, hc⟩
    · rw [updO_ne q] at e
      obtain ⟨h1, h2, h3⟩ := g.ow a d e
      rw [upd_ne q] at h2
      exact ⟨h1, h2, h3⟩
  · have ne : a ≠ p := fun q => by rw [q, hP] at e; cases e
    exact g.as a u ((upd_ne ne).trans e)
end

/-! ### list comprehensions -/
def wipeD (ρ : DEnv) : List Nat → DEnv
  | [] => ρ
  | v :: vs => (wipeD ρ vs).set v none
theorem EnvOk.wipes {K : PySem.W.Frag} {F : Hp} {ρ : DEnv} {σ : L2.St} (h : EnvOk K F ρ σ) : ∀ vs : List Nat, EnvOk K F (wipeD ρ vs) (L2.wipe σ vs)
  | [] => h
  | v :: vs => by unfold wipeD L2.wipe; exact (EnvOk.wipes h vs).wipe v
theorem wipe_in {σ : L2.St} {i : Nat} : ∀ {vs : List Nat}, i ∈ vs → (wipe σ vs)[i]? = if i < σ.length then some none else none
  | [], h => by cases h
  | v :: vs, h => by
    unfold L2.wipe
    by_cases e : v = i
    · subst e
      by_cases c : v < σ.length
      · rw [if_pos c, List.getElem?_set_self (by rw [wipe_length]; exact c)]
      · rw [if_neg c, List.getElem?_eq_none (by rw [List.length_set, wipe_length]; omega)]
    · rw [List.getElem?_set_ne e]
      exact wipe_in ((List.mem_cons.mp h).resolve_left fun q => e q.symm)
theorem wipe_off {σ τ : L2.St} {vs ws : List Nat} (h : Off ws (wipe σ vs) τ) (hs : ∀ i ∈ ws, i ∈ vs) : wipe τ vs = wipe σ vs := by
  refine List.ext_getElem? fun i => ?_
  have hl : τ.length = σ.length := by rw [← h.1, wipe_length]
  by_cases c : i ∈ vs
  · rw [wipe_in c, wipe_in c, hl]
  · rw [wipe_out c]
    exact h.2 i fun q => c (hs i q)
def lcD (p : Pat) (ft : FT) (fe : FE) (ρ : DEnv) : List D → List D → Ow → (List D → Ow → Prop) → Prop
  | [], acc, O, Q => Q acc O
  | d :: ds, acc, O, Q => patGet (patD p d ρ) fun ρ1 => ft ρ1 O fun b O1 => if b = true then fe ρ1 O1 fun e O2 => acc.length < sizeLine ∧ lcD p ft fe ρ ds (acc ++ [e]) O2 Q else lcD p ft fe ρ ds acc O1 Q
def fLc (fi : FI) (p : Pat) (ft : FT) (fe : FE) (vs : List Nat) : FE := fun ρ O Q => fi ρ O fun ds O1 => lcD p ft fe (wipeD ρ vs) ds [] O1 fun acc O2 => Q (.lst acc) O2
def fLcO (fi : FI) (p : Pat) (ft : FT) (fe : FE) (vs : List Nat) : FE := fun ρ O Q => fi ρ O fun ds O1 => lcD p ft fe (wipeD ρ vs) ds [] O1 fun acc O2 => ∀ q, O2 q = none → Q (.ref q) (updO O2 q (.lst acc))
def fYes : FT := fun _ O Q => Q true O
section
variable {X : Cx} {elt tg iter : Expr} {ifs : List Expr} {scope : Scope} {own : List (Str × Nat)} {pos : Pos} {fi : FI} {p : Pat} {ft : FT} {fe : FE}
theorem dts_nil : PTs X [] (liftT M X.K fYes) := ⟨fun pins s σ H Q I h => by
  obtain ⟨F, O, P, ρ, R, g, en, q, po⟩ := h
  exact pts_nil.run pins s σ H Q I (po true O F H q (Same.refl _) g)⟩
theorem dts_one {c : Expr} (h : DT M X c ft) : PTs X [c] (liftT M X.K ft) := pts_one h
theorem fLc_core {vs : List Nat} {K : PySem.W.Frag} (hv : ∀ i ∈ patI p, i ∈ vs) {σ : L2.St} {H : Hp} {Q : VK} {F P : Hp} {O : Ow} {ρ : DEnv} {R : List D → Ow → Prop} (g : Gd M K F O P H) (en : EnvOk K F ρ σ)
    (q : fi ρ O fun ds O1 => lcD p ft fe (wipeD ρ vs) ds [] O1 R)
    (po : ∀ acc O' F' H' q vacc, R acc O' → Same F F' → P q = none → M.rel F' P → Gd M K F' O' (upd P q (.lst vacc)) H' → RepAll K F' acc vacc → Q (.ref q) H') :
    tLc (liftI M K fi) (patT K p) (liftT M K ft) (liftE M K fe) vs σ H Q := by
  refine ⟨F, O, P, ρ, _, g, en, q, fun ds O1 F1 H1 J q1 s1 g1 it D hD => ?_⟩
  have hP := g1.freeP hD
  refine ⟨fun i m H => ∃ F2 O2 acc vacc, i + m = ds.length ∧ Same F1 F2 ∧ Gd M K F2 O2 (upd P D (.lst vacc)) H ∧ RepAll K F2 acc vacc ∧ lcD p ft fe (wipeD ρ vs) (ds.drop i) acc O2 R,
    ⟨ds.length, F1, O1, [], [], by omega, Same.refl _, g1.aside hD, .nil, by rw [List.drop_zero]; exact q1⟩, fun i m H2 hW => ?_⟩
  obtain ⟨F2, O2, acc, vacc, hm, s2, g2, ra, q2⟩ := hW
  obtain ⟨it1, it2⟩ := it F2 O2 (upd P D (.lst vacc)) H2 s2 g2 i
  by_cases hi : i < ds.length
  · obtain ⟨hgo, hy⟩ := it1 ds[i] (List.getElem?_eq_getElem hi)
    rw [List.drop_eq_getElem_cons hi] at q2
    unfold lcD at q2
    refine .inr ⟨hgo, fun H' => ∃ F3 O3 acc vacc, Same F1 F3 ∧ Gd M K F3 O3 (upd P D (.lst vacc)) H' ∧ RepAll K F3 acc vacc ∧ lcD p ft fe (wipeD ρ vs) (ds.drop (i + 1)) acc O3 R, fun H' hN => ?_, fun x H' hyy => ?_⟩
    · obtain ⟨F3, O3, acc3, vacc3, s3, g3, r3, q3⟩ := hN
      exact ⟨m - 1, by omega, F3, O3, acc3, vacc3, by omega, s3, g3, r3, q3⟩
    · obtain ⟨F3, s3, g3, r3⟩ := hy x H' hyy
      cases e1 : patD p ds[i] (wipeD ρ vs) with
      | none => rw [e1] at q2; exact q2.elim
      | some ρ3 =>
        rw [e1] at q2
        refine pat_ok g3 p ds[i] x (wipeD ρ vs) ρ3 (wipe σ vs) _ e1 r3 ((en.mono (s1.trans (s2.trans s3))).wipes vs) fun σ4 en4 off => ?_
        refine ⟨wipe_off off hv, F3, O2, upd P D (.lst vacc), ρ3, _, g3, en4, q2, fun b O5 F5 H5 q5 s5 g5 => ?_⟩
        cases b with
        | true =>
          rw [if_pos rfl] at q5 ⊢
          refine ⟨F5, O5, upd P D (.lst vacc), ρ3, _, g5, en4.mono s5, q5, fun y O6 F6 H6 w q6 s6 g6 r6 => ?_⟩
          refine ⟨vacc, (g6.as D _ upd_same).2, by rw [← ra.length]; exact q6.1, F6, O6, acc ++ [y], vacc ++ [w], s2.trans (s3.trans (s5.trans s6)), g6.asideSet (M.mono g1.rl (s2.trans (s3.trans (s5.trans s6))) (same_upd hP)), (ra.mono (s3.trans (s5.trans s6))).append (.one r6), q6.2⟩
        | false =>
          rw [if_neg Bool.false_ne_true] at q5 ⊢
          exact ⟨F5, O5, acc, vacc, s2.trans (s3.trans s5), g5, ra.mono (s3.trans s5), q5⟩
  · rw [List.drop_eq_nil_of_le (by omega)] at q2
    exact .inl ⟨it2 (by omega), po acc O2 F2 H2 D vacc q2 (s1.trans s2) hP (M.mono g1.rl s2 (Same.refl _)) g2 ra⟩
theorem fLc_lift {vs : List Nat} {K : PySem.W.Frag} (hv : ∀ i ∈ patI p, i ∈ vs) : ∀ σ H Q, liftE M K (fLc fi p ft fe vs) σ H Q → tLc (liftI M K fi) (patT K p) (liftT M K ft) (liftE M K fe) vs σ H Q := fun σ H Q h => by
  obtain ⟨F, O, P, ρ, R, g, en, q, po⟩ := h
  refine fLc_core hv g en q fun acc O' F' H' a vacc q1 s1 hP mk g1 r1 => ?_
  obtain ⟨s2, g2⟩ := g1.asideFz hP mk
  refine po (.lst acc) O' _ H' _ q1 (s1.trans s2) g2 ?_
  simp only [Rep]
  exact ⟨a, vacc, rfl, upd_same, r1.mono s2⟩
theorem fLcO_lift {vs : List Nat} {K : PySem.W.Frag} (hv : ∀ i ∈ patI p, i ∈ vs) : ∀ σ H Q, liftE M K (fLcO fi p ft fe vs) σ H Q → tLc (liftI M K fi) (patT K p) (liftT M K ft) (liftE M K fe) vs σ H Q := fun σ H Q h => by
  obtain ⟨F, O, P, ρ, R, g, en, q, po⟩ := h
  refine fLc_core hv g en q fun acc O' F' H' a vacc q1 s1 hP mk g1 r1 => ?_
  obtain ⟨hO, g2⟩ := g1.asideOw hP mk (c := .lst acc) ⟨vacc, (g1.as a _ upd_same).2, r1⟩
  exact po (.ref a) _ F' H' _ (q1 a hO) s1 g2 (by simp only [Rep])
theorem pat_in {vs : List Nat} (h : ((patI p).all fun i => vs.contains i) = true) : ∀ i ∈ patI p, i ∈ vs := fun i hi => by
  have := List.all_eq_true.mp h i hi
  simpa using this
theorem de_lc {vs : List Nat} (hc : X.calm = true) (hN : X.N.Nodup) (hi : DI M X tg iter fi) (ok : BlkOk X.N X.env.scope scope own)
    (hg : ∀ (s : Shared) (H : Hp) (C : Addr) (cl : List (Str × Addr)) (fp : List Addr), DP (X.blk s H scope (compEnvC scope cl C X.env) fp) tg p) (ht : ∀ (s : Shared) (H : Hp) (C : Addr) (cl : List (Str × Addr)) (fp : List Addr), PTs (X.blk s H scope (compEnvC scope cl C X.env) fp) ifs (liftT M X.K ft))
    (he : ∀ (s : Shared) (H : Hp) (C : Addr) (cl : List (Str × Addr)) (fp : List Addr), DE M (X.blk s H scope (compEnvC scope cl C X.env) fp) elt fe) (hvs : own.map (·.2) = vs := by rfl) (hv : ((patI p).all fun i => vs.contains i) = true := by decide) (hs : ∀ x, foldedSetIterable iter X.env x = pure x := by intro _; rfl) :
    DE M X (.ListComp elt [⟨tg, iter, ifs, 0⟩] scope pos) (fLc fi p ft fe vs) := by
  subst hvs
  exact peMono (pe_lc (te := liftE M X.K fe) (g := patT X.K p) hc hN hi ok hg ht he hs) (fLc_lift (pat_in hv))
theorem ds_setLcO {i : Nat} {vs : List Nat} {y : Str} {py spos : Pos} (hc : X.calm = true) (hN : X.N.Nodup) (hy : X.N[i]? = some y) (hyl : X.env.scope.names.lookup y = some .local)
    (hsw : swapsWith (.ListComp elt [⟨tg, iter, ifs, 0⟩] scope pos) (some (.Name y py)) spos.line X.env = pure true) (hi : DI M X tg iter fi) (ok : BlkOk X.N X.env.scope scope own)
    (hg : ∀ (s : Shared) (H : Hp) (C : Addr) (cl : List (Str × Addr)) (fp : List Addr), DP (X.blk s H scope (compEnvC scope cl C X.env) fp) tg p) (ht : ∀ (s : Shared) (H : Hp) (C : Addr) (cl : List (Str × Addr)) (fp : List Addr), PTs (X.blk s H scope (compEnvC scope cl C X.env) fp) ifs (liftT M X.K ft))
    (he : ∀ (s : Shared) (H : Hp) (C : Addr) (cl : List (Str × Addr)) (fp : List Addr), DE M (X.blk s H scope (compEnvC scope cl C X.env) fp) elt fe) (hvs : own.map (·.2) = vs := by rfl) (hv : ((patI p).all fun i => vs.contains i) = true := by decide) (hs : ∀ x, foldedSetIterable iter X.env x = pure x := by intro _; rfl) :
    DS M X (.Assign [.Name y py] (.ListComp elt [⟨tg, iter, ifs, 0⟩] scope pos) spos) (gSet (fLcO fi p ft fe vs) i) := by
  subst hvs
  exact psMono (ps_setLc (te := liftE M X.K fe) (g := patT X.K p) hc hN hy hyl hsw hi ok hg ht he hs) (gSet_lift (fLcO_lift (pat_in hv)))
end

/-! ### what a def promises, over data -/
theorem Gd.re {M' : MX} {K : PySem.W.Frag} {F P H : Hp} {O : Ow} (g : Gd M K F O P H) (mk : M'.rel F P) : Gd M' K F O P H := ⟨g.fz, g.ow, g.as, mk⟩
theorem Gd.mt {K : PySem.W.Frag} {F P H : Hp} {O : Ow} (g : Gd M K F O P H) : Gd MT K F O P H := g.re trivial
theorem Gd.less {K : PySem.W.Frag} {F P P0 H : Hp} {O : Ow} (g : Gd MT K F O P H) (s : Same P0 P) : Gd MT K F O P0 H := by
  refine ⟨g.fz, fun a c e => ?_, fun a o e => g.as a o (s a o e), trivial⟩
  obtain ⟨h1, h2, h3⟩ := g.ow a c e
  exact ⟨h1, s.free h2, h3⟩
theorem PostE.mt {K : PySem.W.Frag} {F F1 P H : Hp} {O : Ow} {R : VD} {Q : VK} (po : PostE M K F P R Q) (g : Gd M K F1 O P H) (s1 : Same F F1) : PostE MT K F1 P R Q := fun d O' F' H' v q s g' r => po d O' F' H' v q (s1.trans s) (g'.re (M.mono g.rl s (Same.refl _))) r
abbrev XD := Value → Option (List (Str × D)) → Ow → Prop
abbrev DSp := List D → Ow → VD → XD → Prop
def XdOk (K : PySem.W.Frag) (F _H : Hp) : Option (List (Str × D)) → Option Addr → Prop := XdR K F
def PostX (K : PySem.W.Frag) (F P : Hp) (RE : XD) (E : XK) : Prop := ∀ cls fs O' F' H' dd, RE cls fs O' → Same F F' → Gd MT K F' O' P H' → XdOk K F' H' fs dd → E cls dd H'
theorem PostX.more {K : PySem.W.Frag} {F F' P : Hp} {RE : XD} {E : XK} (po : PostX K F P RE E) (s : Same F F') : PostX K F' P RE E := fun cls fs O' F2 H' dd q s2 g x => po cls fs O' F2 H' dd q (s.trans s2) g x
def liftSp (K : PySem.W.Frag) (dsp : DSp) : Sp := fun vs H Q E => ∃ F O P ds R RE, Gd MT K F O P H ∧ RepAll K F ds vs ∧ dsp ds O R RE ∧ PostE MT K F P R Q ∧ PostX K F P RE E
abbrev X0 : XD := fun _ _ _ => False
section
variable {X : Cx} {e : Expr} {es : List Expr} {fr : FA} {CX : CXT} {k : Nat} {f : Addr} {fd : FuncData} {ps : List Str} {dsp : DSp} {x : Str} {p pos : Pos}
def fCall (dsp : DSp) (fr : FA) : FE := fun ρ O Q => fr ρ O fun ds O1 => dsp ds O1 Q X0
theorem de_call (G : FnOk X.prog X.w X.K X.mg X.base CX0 k f fd ps (liftSp X.K dsp)) (hr : Room k X.A) (hg : Gl X x) (hm : X.mg x = some (.ref f)) (hk : PySem.W.keepIn X.K (.ref f) = true) (hb : Binds X.K fd ps [])
    (ha : DA M X (e :: es) fr) (hdb : (x == ("__debug__" : Str)) = false := by decide) (he : starEach (e :: es) X.env = (false, eval e X.env) :: starEach es X.env := by rfl) (hpl : (backTo pos (starEach es X.env)).any (·.1) = false := by rfl) :
    DE M X (.Call (.Name x p) (e :: es) [] pos) (fCall dsp fr) := peMono (pe_call G hr hg hm hk hb .nil pass0 ha hdb he hpl) fun σ H Q h => by
  obtain ⟨F, O, P, ρ, R, g, en, q, po⟩ := h
  refine ⟨F, O, P, ρ, _, g, en, q, fun ds O1 F1 H1 vs q1 s1 g1 r1 => ?_⟩
  show liftSp X.K dsp (vs ++ []) H1 Q E0
  rw [List.append_nil]
  exact ⟨F1, O1, P, ds, R, X0, g1.mt, r1, q1, po.mt g1 s1, fun _ _ _ _ _ _ z => z.elim⟩
end
section
variable {P : Program} {w : World} {K : PySem.W.Frag} {mg : Str → Option Value} {base : Heap}
/-- the names' values at the entry -/
def startD (N : List Str) (ds : List D) : DEnv := ds.map some ++ List.replicate (N.length - ds.length) none
theorem fn_d {x qual : Str} {st : Stmt} {f : Addr} {fd : FuncData} {N ps : List Str} {k : Nat} {dsp : DSp} {g : GS} (F : Fun K x qual st f fd) (S : FnScope N ps (defScope st)) (len : ∀ ds O R RE, dsp ds O R RE → ds.length = ps.length)
    (hder : ∀ (cdv : Value) (A : Around) (outer : List Env) (s : Shared) (H : Hp) (E : XK), Room k (A.deeper (envOfC qual (defScope st) s.heap.objs.size f cdv)) →
      DSs MT (cxOf CX0 P w K mg base N qual (defScope st) f cdv A outer s H E).nox (defBody st) g)
    (hread : ∀ ds O R RE, dsp ds O R RE → g { nx := fun _ O' => R .non O', rt := R } (startD N ds) O) : FnOk P w K mg base CX0 (k + 1) f fd ps (liftSp K dsp) := by
  refine F.ok S (fun vs H Q E h => ?_) fun cdv A outer s H vs Q E hr h => ?_
  · obtain ⟨F, O, P, ds, R, RE, g, r, q, _⟩ := h
    rw [← r.length]; exact len ds O R RE q
  · obtain ⟨F, O, P, ds, R, RE, gd, r, q, po, _⟩ := h
    refine ⟨_, hder cdv A outer s H E hr, F, O, P, startD N ds, { nx := fun _ O' => R .non O', rt := R }, gd, ?_, hread ds O R RE q, ⟨fun ρ O' F' H' σ q1 s1 g1 _ => ?_, po, fun _ _ _ _ _ z => z.elim, fun _ _ _ _ _ z => z.elim⟩⟩
    · unfold startD L2.start
      rw [r.length]
      exact envOk_start _ r
    · exact po .non O' F' H' .non q1 s1 g1 (by simp only [Rep])
end
/-- no calls are left -/
theorem none_left {P : Program} {w : World} {K : PySem.W.Frag} {mg : Str → Option Value} {base : Heap} {CX : CXT} {f : Addr} {fd : FuncData} {ps : List Str} {dsp : DSp} {k : Nat} (no : ∀ ds O R RE, ¬ dsp ds O R RE) : FnOk P w K mg base CX k f fd ps (liftSp K dsp) := by
  have no' : ∀ vs H Q E, ¬ liftSp K dsp vs H Q E := fun vs H Q E h => by
    obtain ⟨F, O, P, ds, R, RE, g, r, q, _⟩ := h
    exact no ds O R RE q
  exact ⟨fun vs H Q E h => absurd h (no' vs H Q E), fun A outer s H args us vs Q E _ _ _ _ h => absurd h (no' vs H Q E)⟩
/-- the law's own promise -/
def lawSp (n : Nat) : DSp := fun ds _ R _ => ∃ ns : List Int, ds = [.scr ns] ∧ ns.length ≤ n ∧ ∀ O, R (.bl true) O
theorem law_start {K : PySem.W.Frag} {H : Hp} {a : Addr} {ns : List Int} {n : Nat} (hl : ns.length ≤ n) (h : SqL K H a (ns.map V.int)) : liftSp K (lawSp n) [.ref a] H (fun v _ => v = .bl true) fun _ _ _ => False := by
  refine ⟨fun b => if b = a then H b else none, fun _ => none, fun _ => none, [.scr ns], fun d _ => d = .bl true, X0, ⟨fun b o e => ?_, (fun _ _ e => nomatch e), (fun _ _ e => nomatch e), trivial⟩, ?_, ⟨ns, rfl, hl, fun _ => rfl⟩, fun d O' F' H' v q _ _ r => ?_, fun _ _ _ _ _ _ z => z.elim⟩
  · split at e
    · exact e
    · cases e
  · refine .one ?_
    simp only [Rep]
    refine ⟨a, rfl, ?_⟩
    rcases h with (h | ⟨o, h⟩) | h
    · exact .inl (.inl ((if_pos rfl).trans h))
    · exact .inl (.inr ⟨o, (if_pos rfl).trans h⟩)
    · exact .inr h
  · subst q
    simpa only [Rep] using r
end Kf
namespace Kf
open PySem PySem.Spec L2
open PyProof.Rows hiding St
variable {M : MX}

abbrev rSubD : R2D := rInts0 fun i j => .int (i - j)
abbrev rMulD : R2D := rInts CMul fun i j => .int (i * j)
abbrev rDivD : R2D := rInts CDv fun i j => .int (i / j)
abbrev rModD : R2D := rInts (fun _ j => 0 < j) fun i j => .int (i % j)
abbrev rPowD : R2D := rInts CPow fun i j => .int (i ^ j.toNat)
abbrev rGtD : R2D := rInts0 fun i j => .bl (decide (j < i))
theorem _root_.L2.Room.u200 {k : Nat} {A : Around} (r : Room k A) : A.units + 200 < cLine := by have := r.un; omega

/-- a def of the text: its place, its name, how it is called -/
structure Fn (K : PySem.W.Frag) (mg : Str → Option Value) (x : Str) (st : Stmt) (ps : List Str) (f : Addr) (fd : FuncData) : Prop where
  F : Fun K x x st f fd
  m : mg x = some (.ref f)
  b : Binds K fd ps []
section
variable {X : Cx} {e : Expr} {es : List Expr} {fr : FA} {k : Nat} {f : Addr} {fd : FuncData} {ps : List Str} {dsp : DSp} {x : Str} {st : Stmt} {p pos : Pos}
theorem de_callN (N : Fn X.K X.mg x st ps f fd) (G : FnOk X.prog X.w X.K X.mg X.base CX0 k f fd ps (liftSp X.K dsp)) (hr : Room k X.A) (hg : Gl X x)
    (ha : DA M X (e :: es) fr) (hdb : (x == ("__debug__" : Str)) = false := by decide) (he : starEach (e :: es) X.env = (false, eval e X.env) :: starEach es X.env := by rfl) (hpl : (backTo pos (starEach es X.env)).any (·.1) = false := by rfl) :
    DE M X (.Call (.Name x p) (e :: es) [] pos) (fCall dsp fr) := de_call G hr hg N.m N.F.kp N.b ha hdb he hpl
/-- a constant of the module -/
def Cst (K : PySem.W.Frag) (mg : Str → Option Value) (x : Str) (d : D) : Prop := ∃ u v, mg x = some u ∧ RelV v u ∧ ∀ F, Rep K F d v
theorem de_cst {d : D} (c : Cst X.K X.mg x d) (hg : Gl X x) (hd : (x == ("__debug__" : Str)) = false := by decide) : DE M X (.Name x pos) (fC d) := by
  obtain ⟨u, v, h1, h2, h3⟩ := c
  exact de_glob hg h1 h2 h3 hd
/-- a built-in class as a value -/
theorem de_ty {n : String} (hv : bootBuiltins x = some (.type n)) (hm : X.mg x = none) (hg : Gl X x) (hn : x ≠ "__name__" := by decide) (hd : (x == ("__debug__" : Str)) = false := by decide) : DE M X (.Name x pos) (fC (.ty n)) :=
  de_bltn (v := .ty n) hg hm hv rfl (fun _ => by simp only [Rep]) hn hd
end
theorem bb_len : bootBuiltins "len" = some (.builtin "len") := by decide +kernel
theorem bb_isinstance : bootBuiltins "isinstance" = some (.builtin "isinstance") := by decide +kernel
theorem bb_max : bootBuiltins "max" = some (.builtin "max") := by decide +kernel
theorem bb_min : bootBuiltins "min" = some (.builtin "min") := by decide +kernel
theorem bb_int : bootBuiltins "int" = some (.type "int") := by decide +kernel
theorem bb_tuple : bootBuiltins "tuple" = some (.type "tuple") := by decide +kernel
theorem bb_list : bootBuiltins "list" = some (.type "list") := by decide +kernel
/-! ### ends that are known -/
/-- a tuple of texts that stands in the written part -/
theorem cst_strs {K : PySem.W.Frag} {mg : Str → Option Value} {x : Str} {a : Addr} {o : Obj} {its : Array Value} {n : Nat} {ys : List Str} (h : mg x = some (.ref a)) (h1 : K.lookup a = some o) (h2 : o.cls = .type "tuple") (h3 : o.data = .seq its n)
    (h4 : Vals (ys.map V.str) its.toList) (h5 : ys.length ≤ sizeLine) : Cst K mg x (.tup (ys.map .str)) := by
  refine ⟨_, .ref a, h, rfl, fun F => ?_⟩
  simp only [Rep]
  refine ⟨a, ys.map V.str, rfl, .inr ⟨o, its, n, h1, h2, h3, ?_, h4⟩, .of_strs⟩
  have h6 : ys.length = its.size := by
    have := h4.length
    rw [List.length_map] at this
    rw [this]; simp
  omega
end Kf
namespace Kf
open PySem PySem.Spec L2
open PyProof.Rows hiding St
variable {M : MX}

/-! ### the readings at known data -/
section
variable {O : Ow} {Q : VD} {i j : Int} {a b : Str} {xs ys : List D} {d e x y z u : D} {p : Addr} {neg : Bool} {ns : List Int}
theorem deref_ref (h : O p = some (.lst xs)) : deref O (.ref p) = .lst xs := by simp only [deref, h]
theorem deref_tup : deref O (.tup xs) = .tup xs := rfl
theorem deref_lst : deref O (.lst xs) = .lst xs := rfl
theorem deref_int : deref O (.int i) = .int i := rfl
theorem deref_str : deref O (.str a) = .str a := rfl
theorem deref_bl {k : Bool} : deref O (.bl k) = .bl k := rfl
theorem deref_non : deref O .non = .non := rfl
theorem deref_scr : deref O (.scr ns) = .scr ns := rfl
theorem rLt_i : rLtD (.int i) (.int j) O Q = Q (.bl (decide (i < j))) O := rfl
theorem rLt_s : rLtD (.str a) (.str b) O Q = Q (.bl (decide (a.cps.toList < b.cps.toList))) O := rfl
theorem rLe_i : rLeD (.int i) (.int j) O Q = Q (.bl (decide (i ≤ j))) O := rfl
theorem rLe_s : rLeD (.str a) (.str b) O Q = Q (.bl (!decide (b.cps.toList < a.cps.toList))) O := rfl
theorem rInts_i {C : Int → Int → Prop} {f : Int → Int → D} : rInts C f (.int i) (.int j) O Q = (C i j ∧ Q (f i j) O) := rfl
theorem rInts0_i {f : Int → Int → D} : rInts0 f (.int i) (.int j) O Q = Q (f i j) O := rfl
theorem rAdd_i : rAddD (.int i) (.int j) O Q = Q (.int (i + j)) O := rfl
theorem rAdd_s : rAddD (.str a) (.str b) O Q = (a.length + b.length ≤ sizeLine ∧ Q (.str (a ++ b)) O) := rfl
theorem rAdd_l : rAddD (.lst xs) (.lst ys) O Q = (xs.length + ys.length ≤ sizeLine ∧ Q (.lst (xs ++ ys)) O) := rfl
theorem rAdd_t : rAddD (.tup xs) (.tup ys) O Q = (xs ≠ [] ∧ xs.length + ys.length ≤ sizeLine ∧ Q (.tup (xs ++ ys)) O) := rfl
theorem rCatO_l : rCatO (.lst xs) (.lst ys) O Q = (xs.length + ys.length ≤ sizeLine ∧ ∀ p, O p = none → Q (.ref p) (updO O p (.lst (xs ++ ys)))) := rfl
theorem rNeg_i : rNeg (.int i) O Q = Q (.int (-i)) O := rfl
theorem rLen_t : rLenD [.tup xs] O Q = Q (.int xs.length) O := rfl
theorem rLen_l : rLenD [.lst xs] O Q = Q (.int xs.length) O := rfl
theorem rLen_c : rLenD [.scr ns] O Q = Q (.int ns.length) O := rfl
theorem rLen_s : rLenD [.str a] O Q = (a.length ≤ sizeLine ∧ Q (.int a.length) O) := rfl
theorem rMax_i : rMax2 [.int i, .int j] O Q = Q (.int (if j > i then j else i)) O := rfl
theorem rMin_i : rMin2 [.int i, .int j] O Q = Q (.int (if j < i then j else i)) O := rfl
theorem rDivmod_i : rDivmod [.int i, .int j] O Q = (CDv i j ∧ Q (.tup [.int (i / j), .int (i % j)]) O) := rfl
theorem rInt_i : rInt1 [.int i] O Q = Q (.int i) O := rfl
theorem rInt_b {k : Bool} : rInt1 [.bl k] O Q = Q (.int (if k then 1 else 0)) O := rfl
theorem rStr_i : rStr1 [.int i] O Q = (i.natAbs.log2 < 1920 ∧ Q (.str (toString i)) O) := rfl
theorem rList_l : rList1 [.lst xs] O Q = Q (.lst xs) O := rfl
theorem rList_t : rList1 [.tup xs] O Q = Q (.lst xs) O := rfl
theorem rListO_l : rList1O [.lst xs] O Q = ∀ p, O p = none → Q (.ref p) (updO O p (.lst xs)) := rfl
theorem rListO_t : rList1O [.tup xs] O Q = ∀ p, O p = none → Q (.ref p) (updO O p (.lst xs)) := rfl
theorem rTup_l : rTup1 [.lst xs] O Q = Q (.tup xs) O := rfl
theorem rTup_t : rTup1 [.tup xs] O Q = Q (.tup xs) O := rfl
theorem ixC0 {α : Type} (x : α) (r : List α) : atI (x :: r) 0 = some x := by
  have := atI_nat (xs := x :: r) (j := 0) (v := x) rfl
  simpa using this
theorem ixC1 {α : Type} (x y : α) (r : List α) : atI (x :: y :: r) 1 = some y := by
  have := atI_nat (xs := x :: y :: r) (j := 1) (v := y) rfl
  simpa using this
theorem ixC2 {α : Type} (x y z : α) (r : List α) : atI (x :: y :: z :: r) 2 = some z := by
  have := atI_nat (xs := x :: y :: z :: r) (j := 2) (v := z) rfl
  simpa using this
theorem ixC3 {α : Type} (x y z u : α) (r : List α) : atI (x :: y :: z :: u :: r) 3 = some u := by
  have := atI_nat (xs := x :: y :: z :: u :: r) (j := 3) (v := u) rfl
  simpa using this
theorem rIx_t (h : atI xs i = some d) : rIxD (.tup xs) (.int i) O Q = Q d O := by simp only [rIxD, deref, h]
theorem rIx_l (h : atI xs i = some d) : rIxD (.lst xs) (.int i) O Q = Q d O := by simp only [rIxD, deref, h]
theorem rIx_c {n : Int} (h : atI ns i = some n) : rIxD (.scr ns) (.int i) O Q = Q (.int n) O := by simp only [rIxD, deref, h]
theorem rIx_r (h' : O p = some (.lst xs)) (h : atI xs i = some d) : rIxD (.ref p) (.int i) O Q = Q d O := by simp only [rIxD, deref, h', h]
theorem rIx_t0 : rIxD (.tup (x :: xs)) (.int 0) O Q = Q x O := rIx_t (ixC0 _ _)
theorem rIx_t1 : rIxD (.tup (x :: y :: xs)) (.int 1) O Q = Q y O := rIx_t (ixC1 _ _ _)
theorem rIx_t2 : rIxD (.tup (x :: y :: z :: xs)) (.int 2) O Q = Q z O := rIx_t (ixC2 _ _ _ _)
theorem rIx_t3 : rIxD (.tup (x :: y :: z :: u :: xs)) (.int 3) O Q = Q u O := rIx_t (ixC3 _ _ _ _ _)
theorem rIx_l0 : rIxD (.lst (x :: xs)) (.int 0) O Q = Q x O := rIx_l (ixC0 _ _)
theorem rIx_l1 : rIxD (.lst (x :: y :: xs)) (.int 1) O Q = Q y O := rIx_l (ixC1 _ _ _)
theorem rIx_l2 : rIxD (.lst (x :: y :: z :: xs)) (.int 2) O Q = Q z O := rIx_l (ixC2 _ _ _ _)
theorem rIx_p0 (h : O p = some .pool) : rIxD (.ref p) (.int 0) O Q = ∀ x : Int, 0 ≤ x → Q (.int x) O := by
  simp only [rIxD, deref, h]; simp
theorem rIx_p1 (h : O p = some .pool) : rIxD (.ref p) (.int 1) O Q = ∀ x : Int, 0 ≤ x → x < 2147483647 → Q (.int x) O := by
  simp only [rIxD, deref, h]; simp
theorem rIsN_x : rIsN neg x .non O Q = Q (.bl (neg ^^ isNon x)) O := rfl
theorem isNon_t : isNon (.tup xs) = false := rfl
theorem isNon_n : isNon .non = true := rfl
theorem isNon_i : isNon (.int i) = false := rfl
theorem isNon_s : isNon (.str a) = false := rfl
theorem isNon_l : isNon (.lst xs) = false := rfl
/-! == -/
/-- == of data -/
def deq (x y : D) : Bool := PyData.eqv (toPy x) (toPy y)
def deqs (xs ys : List D) : Bool := PyData.eqvAll (toPys xs) (toPys ys)
theorem deq_t : deq (.tup xs) (.tup ys) = deqs xs ys := by simp only [deq, toPy, PyData.eqv, deqs]
theorem deq_l : deq (.lst xs) (.lst ys) = deqs xs ys := by simp only [deq, toPy, PyData.eqv, deqs]
theorem deq_ti : deq (.tup xs) (.int i) = false := by simp only [deq, toPy, PyData.eqv]
theorem str_beq (a b : Str) : (a == b) = decide (a = b) := by
  by_cases h : a = b
  · subst h; simp
  · rw [decide_eq_false h]; exact beq_eq_false_iff_ne.mpr h
theorem deq_s : deq (.str a) (.str b) = decide (a = b) := by simp only [deq, toPy, PyData.eqv, str_beq]
theorem deq_i : deq (.int i) (.int j) = decide (i = j) := by simp only [deq, toPy, PyData.eqv, Bool.beq_eq_decide_eq]
theorem deq_b {k l : Bool} : deq (.bl k) (.bl l) = decide (k = l) := by simp only [deq, toPy, PyData.eqv, Bool.beq_eq_decide_eq]
theorem deqs_nn : deqs [] [] = true := by simp only [deqs, toPys, PyData.eqvAll]
theorem deqs_nc : deqs [] (y :: ys) = false := by simp only [deqs, toPys, PyData.eqvAll]
theorem deqs_cn : deqs (x :: xs) [] = false := by simp only [deqs, toPys, PyData.eqvAll]
theorem deqs_cc : deqs (x :: xs) (y :: ys) = (deq x y && deqs xs ys) := by simp only [deqs, deq, toPys, PyData.eqvAll]
/-- == at data read through: what is asked, what is answered -/
theorem rEq_dd (hx : isPy (ddf O 192 x) = true) (hy : isPy (ddf O 192 y) = true) (hd : dp (ddf O 192 x) ≤ 190) : rEqD neg x y O Q = Q (.bl (neg ^^ deq (ddf O 192 x) (ddf O 192 y))) O := by
  have hm : min (dp (ddf O 192 x)) (dp (ddf O 192 y)) ≤ 190 := Nat.le_trans (Nat.min_le_left _ _) hd
  simp only [rEqD, hx, hy, hm, deq, true_and]
/-- .. where the right one is flat -/
theorem rEq_dr (hx : isPy (deref O x) = true) (hy : isPy (deref O y) = true) (hd : dp (deref O y) ≤ 190) : rEqD neg x y O Q = Q (.bl (neg ^^ deq (deref O x) (deref O y))) O := by
  have ex : ddf O 192 x = deref O x := ddf_deref hx
  have ey : ddf O 192 y = deref O y := ddf_deref hy
  have hm : min (dp (deref O x)) (dp (deref O y)) ≤ 190 := Nat.le_trans (Nat.min_le_right _ _) hd
  simp only [rEqD, ex, ey, hx, hy, hm, deq, true_and]
/-- == at data: what is asked, what is answered -/
theorem rEq_d (hx : isPy (deref O x) = true) (hy : isPy (deref O y) = true) (hd : dp (deref O x) ≤ 190) : rEqD neg x y O Q = Q (.bl (neg ^^ deq (deref O x) (deref O y))) O := by
  have ex : ddf O 192 x = deref O x := ddf_deref hx
  have ey : ddf O 192 y = deref O y := ddf_deref hy
  rw [rEq_dd (by rw [ex]; exact hx) (by rw [ey]; exact hy) (by rw [ex]; exact hd), ex, ey]
theorem rEq_i : rEqD neg (.int i) (.int j) O Q = Q (.bl (neg ^^ decide (i = j))) O := by
  rw [rEq_d (by simp only [deref, isPy]) (by simp only [deref, isPy]) (by simp [deref, dp, toPy, PyData.depth]), deref_int, deref_int, deq_i]
theorem rEq_b {k l : Bool} : rEqD neg (.bl k) (.bl l) O Q = Q (.bl (neg ^^ decide (k = l))) O := by
  rw [rEq_d (by simp only [deref, isPy]) (by simp only [deref, isPy]) (by simp [deref, dp, toPy, PyData.depth]), deref_bl, deref_bl, deq_b]
theorem rEq_s (h1 : PyData.strOk a = true) (h2 : PyData.strOk b = true) : rEqD neg (.str a) (.str b) O Q = Q (.bl (neg ^^ decide (a = b))) O := by
  rw [rEq_d (by simpa only [deref, isPy] using h1) (by simpa only [deref, isPy] using h2) (by simp [deref, dp, toPy, PyData.depth]), deref_str, deref_str, deq_s]
theorem rIsi_ty {n : String} (h1 : insCl.contains n = true) (h2 : insTy.contains (tyNm O x) = true) : rIsiD [x, .ty n] O Q = Q (.bl (insOf (tyNm O x) n)) O := by
  simp only [rIsiD, h1, h2, true_and]
theorem rApp_r (h : O p = some (.lst xs)) : rAppendD (.ref p) [y] O Q = (xs.length < sizeLine ∧ Q .non (updO O p (.lst (xs ++ [y])))) := by simp only [rAppendD, h]
theorem rExt_r (h : O p = some (.lst xs)) (h' : deref O y = .lst ys) : rExtendD (.ref p) [y] O Q = (xs.length + ys.length ≤ sizeLine ∧ Q .non (updO O p (.lst (xs ++ ys)))) := by simp only [rExtendD, h, h']
theorem rPop_r (h : O p = some (.lst xs)) (h' : xs[xs.length - 1]? = some d) : rPopD (.ref p) [] O Q = Q d (updO O p (.lst xs.dropLast)) := by simp only [rPopD, h, h']
theorem tyOk_r (h : O p = some (.lst xs)) : tyOk "list" O (.ref p) = true := by simp [tyOk, tyNm, h]
theorem tyOk_l : tyOk "list" O (.lst xs) = true := rfl
theorem tyOk_s : tyOk "str" O (.str a) = true := rfl
theorem rPool_i : rPool [.int i, .int j] O Q = (0 ≤ i ∧ 0 ≤ j ∧ j < 2147483647 ∧ ∀ p, O p = none → Q (.ref p) (updO O p .pool)) := rfl
theorem rSet_p0 {N : Ow → Prop} (h : O p = some .pool) : rSetD (.ref p) (.int 0) (.int i) O N = (0 ≤ i ∧ N O) := by
  simp only [rSetD, h]; simp
theorem rSet_p1 {N : Ow → Prop} (h : O p = some .pool) : rSetD (.ref p) (.int 1) (.int i) O N = ((0 ≤ i ∧ i < 2147483647) ∧ N O) := by
  simp only [rSetD, h]; simp
end
theorem sz_small {n : Nat} (h : n ≤ 1000000) : n ≤ sizeLine := by have := sizeLine_eq; omega
theorem notX {b : Bool} : (true ^^ b) = !b := Bool.true_xor b
theorem notX' {b : Bool} : (false ^^ b) = b := Bool.false_xor b
/-- patterns -/
theorem patD_nm {i : Nat} {d : D} {ρ : DEnv} : patD (.nm i) d ρ = some (ρ.set i (some d)) := by simp only [patD]
theorem patD_tp {ps : List Pat} {ds : List D} {ρ : DEnv} : patD (.tp ps) (.tup ds) ρ = patDs ps ds ρ := by simp only [patD]
theorem patDs_nil {ρ : DEnv} : patDs [] [] ρ = some ρ := by simp only [patDs]
theorem patDs_cons {p : Pat} {ps : List Pat} {d : D} {ds : List D} {ρ : DEnv} : patDs (p :: ps) (d :: ds) ρ = (patD p d ρ).bind (patDs ps ds) := by simp only [patDs]
/-- a walk that keeps a word -/
theorem forD_inv {p : Pat} {gb : GS} {R : DEnds} (I : DEnv → Ow → Prop) : ∀ (ds : List D) (ρ : DEnv) (O : Ow), I ρ O → (∀ ρ O, I ρ O → R.nx ρ O) →
    (∀ d ∈ ds, ∀ ρ O, I ρ O → ∀ N, (∀ ρ O, I ρ O → N ρ O) → patGet (patD p d ρ) fun ρ1 => gb { R with nx := N, ct := N, bk := R.nx } ρ1 O) → forD p gb R ds ρ O
  | [], ρ, O, h, hd, _ => hd ρ O h
  | d :: ds, ρ, O, h, hd, hs => by
    have q := hs d List.mem_cons_self ρ O h (forD p gb R ds) fun ρ' O' h' => forD_inv I ds ρ' O' h' hd fun d' hm => hs d' (List.mem_cons_of_mem _ hm)
    unfold forD
    exact q

theorem isi_i_int {i : Int} {O : Ow} {Q : VD} : rIsiD [(.int i), .ty "int"] O Q = Q (.bl true) O := by simp [rIsiD, insCl, insTy, tyNm, insOf]
theorem isi_i_bool {i : Int} {O : Ow} {Q : VD} : rIsiD [(.int i), .ty "bool"] O Q = Q (.bl false) O := by simp [rIsiD, insCl, insTy, tyNm, insOf]
theorem isi_i_str {i : Int} {O : Ow} {Q : VD} : rIsiD [(.int i), .ty "str"] O Q = Q (.bl false) O := by simp [rIsiD, insCl, insTy, tyNm, insOf]
theorem isi_i_tuple {i : Int} {O : Ow} {Q : VD} : rIsiD [(.int i), .ty "tuple"] O Q = Q (.bl false) O := by simp [rIsiD, insCl, insTy, tyNm, insOf]
theorem isi_i_list {i : Int} {O : Ow} {Q : VD} : rIsiD [(.int i), .ty "list"] O Q = Q (.bl false) O := by simp [rIsiD, insCl, insTy, tyNm, insOf]
theorem isi_i_dict {i : Int} {O : Ow} {Q : VD} : rIsiD [(.int i), .ty "dict"] O Q = Q (.bl false) O := by simp [rIsiD, insCl, insTy, tyNm, insOf]
theorem isi_b_int {k : Bool} {O : Ow} {Q : VD} : rIsiD [(.bl k), .ty "int"] O Q = Q (.bl true) O := by simp [rIsiD, insCl, insTy, tyNm, insOf]
theorem isi_b_bool {k : Bool} {O : Ow} {Q : VD} : rIsiD [(.bl k), .ty "bool"] O Q = Q (.bl true) O := by simp [rIsiD, insCl, insTy, tyNm, insOf]
theorem isi_b_str {k : Bool} {O : Ow} {Q : VD} : rIsiD [(.bl k), .ty "str"] O Q = Q (.bl false) O := by simp [rIsiD, insCl, insTy, tyNm, insOf]
theorem isi_b_tuple {k : Bool} {O : Ow} {Q : VD} : rIsiD [(.bl k), .ty "tuple"] O Q = Q (.bl false) O := by simp [rIsiD, insCl, insTy, tyNm, insOf]
theorem isi_b_list {k : Bool} {O : Ow} {Q : VD} : rIsiD [(.bl k), .ty "list"] O Q = Q (.bl false) O := by simp [rIsiD, insCl, insTy, tyNm, insOf]
theorem isi_b_dict {k : Bool} {O : Ow} {Q : VD} : rIsiD [(.bl k), .ty "dict"] O Q = Q (.bl false) O := by simp [rIsiD, insCl, insTy, tyNm, insOf]
theorem isi_s_int {a : Str} {O : Ow} {Q : VD} : rIsiD [(.str a), .ty "int"] O Q = Q (.bl false) O := by simp [rIsiD, insCl, insTy, tyNm, insOf]
theorem isi_s_bool {a : Str} {O : Ow} {Q : VD} : rIsiD [(.str a), .ty "bool"] O Q = Q (.bl false) O := by simp [rIsiD, insCl, insTy, tyNm, insOf]
theorem isi_s_str {a : Str} {O : Ow} {Q : VD} : rIsiD [(.str a), .ty "str"] O Q = Q (.bl true) O := by simp [rIsiD, insCl, insTy, tyNm, insOf]
theorem isi_s_tuple {a : Str} {O : Ow} {Q : VD} : rIsiD [(.str a), .ty "tuple"] O Q = Q (.bl false) O := by simp [rIsiD, insCl, insTy, tyNm, insOf]
theorem isi_s_list {a : Str} {O : Ow} {Q : VD} : rIsiD [(.str a), .ty "list"] O Q = Q (.bl false) O := by simp [rIsiD, insCl, insTy, tyNm, insOf]
theorem isi_s_dict {a : Str} {O : Ow} {Q : VD} : rIsiD [(.str a), .ty "dict"] O Q = Q (.bl false) O := by simp [rIsiD, insCl, insTy, tyNm, insOf]
theorem isi_t_int {xs : List D} {O : Ow} {Q : VD} : rIsiD [(.tup xs), .ty "int"] O Q = Q (.bl false) O := by simp [rIsiD, insCl, insTy, tyNm, insOf]
theorem isi_t_bool {xs : List D} {O : Ow} {Q : VD} : rIsiD [(.tup xs), .ty "bool"] O Q = Q (.bl false) O := by simp [rIsiD, insCl, insTy, tyNm, insOf]
theorem isi_t_str {xs : List D} {O : Ow} {Q : VD} : rIsiD [(.tup xs), .ty "str"] O Q = Q (.bl false) O := by simp [rIsiD, insCl, insTy, tyNm, insOf]
theorem isi_t_tuple {xs : List D} {O : Ow} {Q : VD} : rIsiD [(.tup xs), .ty "tuple"] O Q = Q (.bl true) O := by simp [rIsiD, insCl, insTy, tyNm, insOf]
theorem isi_t_list {xs : List D} {O : Ow} {Q : VD} : rIsiD [(.tup xs), .ty "list"] O Q = Q (.bl false) O := by simp [rIsiD, insCl, insTy, tyNm, insOf]
theorem isi_t_dict {xs : List D} {O : Ow} {Q : VD} : rIsiD [(.tup xs), .ty "dict"] O Q = Q (.bl false) O := by simp [rIsiD, insCl, insTy, tyNm, insOf]
theorem isi_l_int {xs : List D} {O : Ow} {Q : VD} : rIsiD [(.lst xs), .ty "int"] O Q = Q (.bl false) O := by simp [rIsiD, insCl, insTy, tyNm, insOf]
theorem isi_l_bool {xs : List D} {O : Ow} {Q : VD} : rIsiD [(.lst xs), .ty "bool"] O Q = Q (.bl false) O := by simp [rIsiD, insCl, insTy, tyNm, insOf]
theorem isi_l_str {xs : List D} {O : Ow} {Q : VD} : rIsiD [(.lst xs), .ty "str"] O Q = Q (.bl false) O := by simp [rIsiD, insCl, insTy, tyNm, insOf]
theorem isi_l_tuple {xs : List D} {O : Ow} {Q : VD} : rIsiD [(.lst xs), .ty "tuple"] O Q = Q (.bl false) O := by simp [rIsiD, insCl, insTy, tyNm, insOf]
theorem isi_l_list {xs : List D} {O : Ow} {Q : VD} : rIsiD [(.lst xs), .ty "list"] O Q = Q (.bl true) O := by simp [rIsiD, insCl, insTy, tyNm, insOf]
theorem isi_l_dict {xs : List D} {O : Ow} {Q : VD} : rIsiD [(.lst xs), .ty "dict"] O Q = Q (.bl false) O := by simp [rIsiD, insCl, insTy, tyNm, insOf]
theorem isi_n_int  {O : Ow} {Q : VD} : rIsiD [.non, .ty "int"] O Q = Q (.bl false) O := by simp [rIsiD, insCl, insTy, tyNm, insOf]
theorem isi_n_bool  {O : Ow} {Q : VD} : rIsiD [.non, .ty "bool"] O Q = Q (.bl false) O := by simp [rIsiD, insCl, insTy, tyNm, insOf]
theorem isi_n_str  {O : Ow} {Q : VD} : rIsiD [.non, .ty "str"] O Q = Q (.bl false) O := by simp [rIsiD, insCl, insTy, tyNm, insOf]
theorem isi_n_tuple  {O : Ow} {Q : VD} : rIsiD [.non, .ty "tuple"] O Q = Q (.bl false) O := by simp [rIsiD, insCl, insTy, tyNm, insOf]
theorem isi_n_list  {O : Ow} {Q : VD} : rIsiD [.non, .ty "list"] O Q = Q (.bl false) O := by simp [rIsiD, insCl, insTy, tyNm, insOf]
theorem isi_n_dict  {O : Ow} {Q : VD} : rIsiD [.non, .ty "dict"] O Q = Q (.bl false) O := by simp [rIsiD, insCl, insTy, tyNm, insOf]
theorem isi_d_int  {O : Ow} {Q : VD} : rIsiD [.edic, .ty "int"] O Q = Q (.bl false) O := by simp [rIsiD, insCl, insTy, tyNm, insOf]
theorem isi_d_bool  {O : Ow} {Q : VD} : rIsiD [.edic, .ty "bool"] O Q = Q (.bl false) O := by simp [rIsiD, insCl, insTy, tyNm, insOf]
theorem isi_d_str  {O : Ow} {Q : VD} : rIsiD [.edic, .ty "str"] O Q = Q (.bl false) O := by simp [rIsiD, insCl, insTy, tyNm, insOf]
theorem isi_d_tuple  {O : Ow} {Q : VD} : rIsiD [.edic, .ty "tuple"] O Q = Q (.bl false) O := by simp [rIsiD, insCl, insTy, tyNm, insOf]
theorem isi_d_list  {O : Ow} {Q : VD} : rIsiD [.edic, .ty "list"] O Q = Q (.bl false) O := by simp [rIsiD, insCl, insTy, tyNm, insOf]
theorem isi_d_dict  {O : Ow} {Q : VD} : rIsiD [.edic, .ty "dict"] O Q = Q (.bl true) O := by simp [rIsiD, insCl, insTy, tyNm, insOf]
end Kf
namespace Kf
open PySem PySem.Spec L2
open PyProof.Rows hiding St
variable {M : MX}

/-! ### kinds -/
inductive Kd where
  | mk (m : Str) | one | to (a b : Kd) | both (a b : Kd)
  deriving DecidableEq, Inhabited
def dK : Kd → D
  | .mk m => .tup [.str "mark", .str m]
  | .one => .tup [.str "one"]
  | .to a b => .tup [.str "to", dK a, dK b]
  | .both a b => .tup [.str "both", dK a, dK b]
def Kd.leaves : Kd → Nat
  | .mk _ => 1
  | .one => 1
  | .to a b => a.leaves + b.leaves
  | .both a b => a.leaves + b.leaves
def Kd.depth : Kd → Nat
  | .mk _ => 0
  | .one => 0
  | .to a b => max a.depth b.depth + 1
  | .both a b => max a.depth b.depth + 1
theorem Kd.depth_lt : ∀ k : Kd, k.depth < k.leaves
  | .mk _ => by simp [depth, leaves]
  | .one => by simp [depth, leaves]
  | .to a b => by have := a.depth_lt; have := b.depth_lt; simp only [depth, leaves]; omega
  | .both a b => by have := a.depth_lt; have := b.depth_lt; simp only [depth, leaves]; omega
def Kd.ok : Kd → Bool
  | .mk m => PyData.strOk m
  | .one => true
  | .to a b => a.ok && b.ok
  | .both a b => a.ok && b.ok
theorem so_mark : PyData.strOk "mark" = true := by decide +kernel
theorem so_one : PyData.strOk "one" = true := by decide +kernel
theorem so_to : PyData.strOk "to" = true := by decide +kernel
theorem so_both : PyData.strOk "both" = true := by decide +kernel
theorem isPy_dK : ∀ k : Kd, isPy (dK k) = k.ok
  | .mk m => by simp [dK, isPy, isPys, Kd.ok, so_mark]
  | .one => by simp [dK, isPy, isPys, Kd.ok, so_one]
  | .to a b => by simp [dK, isPy, isPys, Kd.ok, so_to, isPy_dK a, isPy_dK b]
  | .both a b => by simp [dK, isPy, isPys, Kd.ok, so_both, isPy_dK a, isPy_dK b]
theorem dpT (ds : List D) : dp (.tup ds) = PyData.depthAll (toPys ds) + 1 := by simp [dp, toPy, PyData.depth]
theorem dpL (ds : List D) : dp (.lst ds) = PyData.depthAll (toPys ds) + 1 := by simp [dp, toPy, PyData.depth]
theorem dpC (d : D) (ds : List D) : PyData.depthAll (toPys (d :: ds)) = max (dp d) (PyData.depthAll (toPys ds)) := by simp [dp, toPys, PyData.depthAll]
theorem dpN : PyData.depthAll (toPys []) = 0 := by simp [toPys, PyData.depthAll]
theorem dpS (x : Str) : dp (.str x) = 0 := by simp [dp, toPy, PyData.depth]
theorem dpI (x : Int) : dp (.int x) = 0 := by simp [dp, toPy, PyData.depth]
theorem dpB (x : Bool) : dp (.bl x) = 0 := by simp [dp, toPy, PyData.depth]
theorem dp_dK : ∀ k : Kd, dp (dK k) = k.depth + 1
  | .mk m => by simp [dK, dpT, dpC, dpN, dpS, Kd.depth]
  | .one => by simp [dK, dpT, dpC, dpN, dpS, Kd.depth]
  | .to a b => by simp [dK, dpT, dpC, dpN, dpS, Kd.depth, dp_dK a, dp_dK b]
  | .both a b => by simp [dK, dpT, dpC, dpN, dpS, Kd.depth, dp_dK a, dp_dK b]
theorem dps_le {n : Nat} : ∀ {ds : List D}, (∀ d ∈ ds, dp d ≤ n) → PyData.depthAll (toPys ds) ≤ n
  | [], _ => by rw [dpN]; omega
  | d :: ds, h => by
    rw [dpC]
    exact Nat.max_le.mpr ⟨h d List.mem_cons_self, dps_le fun e he => h e (List.mem_cons_of_mem _ he)⟩
theorem deref_dK {O : Ow} (k : Kd) : deref O (dK k) = dK k := by cases k <;> rfl
theorem sd_tb : decide (Str.ofString "to" = Str.ofString "both") = false := by decide +kernel
theorem sd_bt : decide (Str.ofString "both" = Str.ofString "to") = false := by decide +kernel
/-- == of kinds is = -/
theorem deq_K : ∀ a b : Kd, deq (dK a) (dK b) = decide (a = b) := by
  intro a
  induction a with
  | mk m => intro b; cases b <;> simp [dK, deq_t, deqs_cc, deqs_nn, deqs_nc, deqs_cn, deq_s]
  | one => intro b; cases b <;> simp [dK, deq_t, deqs_cc, deqs_nn, deqs_nc, deqs_cn, deq_s]
  | to a c ih1 ih2 =>
    intro b
    cases b with
    | both _ _ => simp only [dK, deq_t, deqs_cc, deq_s, sd_tb]; simp
    | _ => simp [dK, deq_t, deqs_cc, deqs_nn, deqs_nc, deqs_cn, deq_s, ih1, ih2]
  | both a c ih1 ih2 =>
    intro b
    cases b with
    | to _ _ => simp only [dK, deq_t, deqs_cc, deq_s, sd_bt]; simp
    | _ => simp [dK, deq_t, deqs_cc, deqs_nn, deqs_nc, deqs_cn, deq_s, ih1, ih2]
theorem rEq_K {neg : Bool} {a b : Kd} {O : Ow} {Q : VD} (ha : a.ok = true) (hb : b.ok = true) (hd : a.depth < 190) : rEqD neg (dK a) (dK b) O Q = Q (.bl (neg ^^ decide (a = b))) O := by
  rw [rEq_d (by rw [deref_dK, isPy_dK, ha]) (by rw [deref_dK, isPy_dK, hb]) (by rw [deref_dK, dp_dK]; omega), deref_dK, deref_dK, deq_K]
/-- == against the empty list -/
theorem deq_nil (xs : List D) : deq (.lst xs) (.lst []) = xs.isEmpty := by
  cases xs <;> simp [deq_l, deqs_nn, deqs_cn]
theorem rEq_nilA {neg : Bool} {x : D} {xs : List D} {O : Ow} {Q : VD} (hx : deref O x = .lst xs) (h : isPys xs = true) : rEqD neg x (.lst []) O Q = Q (.bl (neg ^^ xs.isEmpty)) O := by
  rw [rEq_dr (by rw [hx]; simpa only [isPy] using h) (by simp only [deref, isPy, isPys]) (by simp [deref, dp, toPy, toPys, PyData.depth, PyData.depthAll]), hx, deref_lst, deq_nil]
theorem rEq_i2 {neg : Bool} {a b c d : Int} {O : Ow} {Q : VD} : rEqD neg (.lst [.int a, .int b]) (.lst [.int c, .int d]) O Q = Q (.bl (neg ^^ (decide (a = c) && decide (b = d)))) O := by
  rw [rEq_d (by simp [deref, isPy, isPys]) (by simp [deref, isPy, isPys]) (by simp [deref, dpL, dpC, dpN, dpI])]
  simp [deref, deq_l, deqs_cc, deqs_nn, deq_i, deq_b]
theorem rEq_b2 {neg : Bool} {a b c d : Bool} {O : Ow} {Q : VD} : rEqD neg (.lst [.bl a, .bl b]) (.lst [.bl c, .bl d]) O Q = Q (.bl (neg ^^ (decide (a = c) && decide (b = d)))) O := by
  rw [rEq_d (by simp [deref, isPy, isPys]) (by simp [deref, isPy, isPys]) (by simp [deref, dpL, dpC, dpN, dpB])]
  simp [deref, deq_l, deqs_cc, deqs_nn, deq_i, deq_b]

/-! ### the law's pool -/
theorem atI_some {α : Type} {xs : List α} {k : Int} (h0 : 0 ≤ k) (h1 : k < xs.length) : ∃ v, atI xs k = some v ∧ v ∈ xs := by
  have hk : k.toNat < xs.length := by omega
  have e : k = ((k.toNat : Nat) : Int) := by omega
  have q : atI xs ((k.toNat : Nat) : Int) = some xs[k.toNat] := atI_nat (List.getElem?_eq_getElem hk)
  rw [← e] at q
  exact ⟨xs[k.toNat], q, List.getElem_mem hk⟩
theorem poolMod (x : Int) : 0 ≤ x % 2147483647 ∧ x % 2147483647 < 2147483647 := ⟨Int.emod_nonneg _ (by decide), Int.emod_lt_of_pos _ (by decide)⟩
theorem poolNum (c : Int) {k : Int} (h0 : 0 ≤ k) (h1 : k ≤ 1000) : CPow (c % 2147483629 + 104729 * k * k + 11) 3 := by
  have h2 : k * k ≤ 1000 * 1000 := Int.mul_le_mul h1 h1 h0 (by decide)
  have h3 : 0 ≤ k * k := Int.mul_nonneg h0 h0
  have h4 : 0 ≤ c % 2147483629 := Int.emod_nonneg _ (by decide)
  have h5 : c % 2147483629 < 2147483629 := Int.emod_lt_of_pos _ (by decide)
  refine ⟨by decide, by decide, ?_⟩
  rw [Int.mul_assoc]
  omega
def spPool : DSp := fun ds O R _ => ∃ (ns : List Int) (k : Int), ds = [.scr ns, .int k] ∧ 0 ≤ k ∧ k ≤ 1000 ∧ ∀ p, O p = none → R (.ref p) (updO O p .pool)
def spTake : DSp := fun ds O R _ => ∃ (p : Addr) (m : Int), ds = [.ref p, .int m] ∧ O p = some .pool ∧ 0 < m ∧ m < 1329227995784915872903807060280344576 ∧ ∀ r : Int, 0 ≤ r → r < m → R (.int r) O
theorem take_of {p : Addr} {m : Int} {O : Ow} {R : VD} {RE : XD} (hp : O p = some .pool) (h0 : 0 < m) (h1 : m < 1329227995784915872903807060280344576) (h : ∀ r : Int, 0 ≤ r → r < m → R (.int r) O) : spTake [.ref p, .int m] O R RE := ⟨p, m, rfl, hp, h0, h1, h⟩
theorem mem_rangeD {lo : Int} {n : Nat} {d : D} (h : d ∈ rangeD lo n) : ∃ i : Nat, i < n ∧ d = .int (lo + i) := by
  unfold rangeD at h
  obtain ⟨i, h1, rfl⟩ := List.mem_map.mp h
  exact ⟨i, List.mem_range.mp h1, rfl⟩
/-- the law's own loop: how often it goes -/
theorem rngBound (n N : Nat) (hN : N ≤ 1000) (h1 : 1 ≤ N) : (-2 ^ 62 ≤ if (if (N : Int) < n then (N : Int) else n) > 1 then if (N : Int) < n then (N : Int) else n else 1) ∧
    (if (if (N : Int) < n then (N : Int) else n) > 1 then if (N : Int) < n then (N : Int) else n else 1) < 2 ^ 62 ∧
    (if (if (N : Int) < n then (N : Int) else n) > 1 then if (N : Int) < n then (N : Int) else n else 1).toNat ≤ N := by
  refine ⟨?_, ?_, ?_⟩ <;> (repeat' split) <;> omega
end Kf
namespace Kf
open PySem PySem.Spec L2
open PyProof.Rows hiding St
variable {M : MX}

section
variable {X : Cx}
/-! ### more methods -/
def rJoinD : RMD := fun x ds O Q => match x, ds with
  | .str a, [y] => match deref O y with
    | .lst ys => match asStrs ys with
      | some ts => (ts.map (·.length)).sum + ts.length * a.length ≤ 16777216 ∧ Q (.str (Str.join a ts)) O
      | none => False
    | .tup ys => match asStrs ys with
      | some ts => (ts.map (·.length)).sum + ts.length * a.length ≤ 16777216 ∧ Q (.str (Str.join a ts)) O
      | none => False
    | _ => False
  | _, _ => False
def rSplitD : RMD := fun x ds O Q => match x, ds with
  | .str a, [.str b] => (b.length == 0) = false ∧ a.length + 2 ≤ sizeLine ∧ Q (.lst ((Txt.split a b).map .str)) O
  | _, _ => False
/-- xs.index(y): the first place of an equal one -/
def rIndexD : RMD := fun x ds O Q => match ds with
  | [y] => match deref O x with
    | .lst xs => isPys xs = true ∧ isPy (deref O y) = true ∧ dp (.lst xs) ≤ 64 ∧ dp (deref O y) ≤ 64 ∧ match xs.findIdx? (fun z => deq z (deref O y)) with
      | some j => Q (.int (j : Nat)) O
      | none => False
    | _ => False
  | _ => False
theorem toPys_get {xs : List D} {j : Nat} : (toPys xs)[j]? = xs[j]?.map toPy := by rw [toPys_map, List.getElem?_map]
theorem md_index (hu : X.A.units + 200 < cLine) : MtD M X "list.index" rIndexD := by
  refine mtD_of fun F P H O x xs dx ds R Q g r1 r2 q po => ?_
  unfold rIndexD at q
  split at q <;> first | exact q.elim | skip
  rename_i y
  obtain ⟨v, rfl, r2'⟩ := r2.one'
  have h1 := g.deref r1
  have h2 := g.deref r2'
  revert q h1
  generalize Kf.deref O dx = ex
  intro q h1
  cases ex <;> first | exact q.elim | skip
  rename_i zs
  obtain ⟨q1, q2, q3, q4, q5⟩ := q
  cases e : zs.findIdx? (fun z => deq z (Kf.deref O y)) with
  | none => rw [e] at q5; exact q5.elim
  | some j =>
    rw [e] at q5
    obtain ⟨c, ws, rfl, h3, h4⟩ := h1
    obtain ⟨hj, hp, hn⟩ := List.findIdx?_eq_some_iff_getElem.mp e
    refine ⟨_, mt_indexD (by omega), c, v, _, toPys zs, j, toPy zs[j], rfl, rfl, .lst (SqL.of h3) (RepAll.dp g.fz zs ws q1 h4), h2.dp g.fz q2, ?_, ?_, ?_, hp, fun m z' hm hz => ?_, po.at g q5 (by simp only [Rep])⟩
    · have l1 : (PyData.list (toPys zs)).canLay0 = true := by simp only [PyData.canLay0]; exact isPys_lay zs q1
      have l2 : (PyData.list (toPys zs)).depth ≤ 64 := by have := q3; simpa only [dp, toPy] using this
      simp only [SeqAt.shaped, l1, l2, decide_true, Bool.and_self]
    · have l2 : (toPy (Kf.deref O y)).depth ≤ 64 := q4
      simp only [SeqAt.shaped, isPy_lay _ q2, l2, decide_true, Bool.and_self]
    · rw [toPys_get, List.getElem?_eq_getElem hj]; rfl
    · rw [toPys_get] at hz
      obtain ⟨z, hz1, rfl⟩ := Option.map_eq_some_iff.mp hz
      have hml : m < zs.length := by omega
      rw [List.getElem?_eq_getElem hml] at hz1
      cases hz1
      have := hn m hm
      simpa [deq] using this
end
section
variable {O : Ow} {Q : VD} {i j : Int} {a b : Str} {xs ys : List D} {d e x y z u : D} {p : Addr}
theorem rJoin_l {ts : List Str} (h : asStrs xs = some ts) : rJoinD (.str a) [.lst xs] O Q = ((ts.map (·.length)).sum + ts.length * a.length ≤ 16777216 ∧ Q (.str (Str.join a ts)) O) := by simp only [rJoinD, deref, h]
theorem rJoin_m {ts : List Str} : rJoinD (.str a) [.lst (ts.map .str)] O Q = ((ts.map (·.length)).sum + ts.length * a.length ≤ 16777216 ∧ Q (.str (Str.join a ts)) O) := rJoin_l (asStrs_map ts)
theorem rSplit_s : rSplitD (.str a) [.str b] O Q = ((b.length == 0) = false ∧ a.length + 2 ≤ sizeLine ∧ Q (.lst ((Txt.split a b).map .str)) O) := rfl
theorem rIndex_l {j : Nat} (h1 : isPys xs = true) (h2 : isPy (deref O y) = true) (h3 : dp (.lst xs) ≤ 64) (h4 : dp (deref O y) ≤ 64) (h : xs.findIdx? (fun z => deq z (deref O y)) = some j) : rIndexD (.lst xs) [y] O Q = Q (.int (j : Nat)) O := by
  simp only [rIndexD, deref_lst, h1, h2, h3, h4, h, true_and]
end
/-! ### walks -/
/-! ### what is owned may be forgotten -/
def Sub (O O' : Ow) : Prop := ∀ a c, O a = some c → O' a = some c
theorem Sub.refl (O : Ow) : Sub O O := fun _ _ h => h
theorem Sub.trans {O O1 O2 : Ow} (a : Sub O O1) (b : Sub O1 O2) : Sub O O2 := fun p c h => b p c (a p c h)
theorem sub_upd {O : Ow} {p : Addr} {c : Cell} (h : O p = none) : Sub O (updO O p c) := fun a d e => by
  have ne : a ≠ p := fun q => by rw [q, h] at e; cases e
  rw [updO_ne ne]; exact e
theorem Gd.sub {K : PySem.W.Frag} {F P H : Hp} {O O' : Ow} (g : Gd M K F O' P H) (s : Sub O O') : Gd M K F O P H := ⟨g.fz, fun a c e => g.ow a c (s a c e), g.as, g.rl⟩
/-- at the end what is owned besides is forgotten -/
def VG (R : VD) : VD := fun d O' => ∃ O, Sub O O' ∧ R d O
section
variable {P : Program} {w : World} {K : PySem.W.Frag} {mg : Str → Option Value} {base : Heap}
theorem fn_dG {x qual : Str} {st : Stmt} {f : Addr} {fd : FuncData} {N ps : List Str} {k : Nat} {dsp : DSp} {g : GS} (F : Fun K x qual st f fd) (S : FnScope N ps (defScope st)) (len : ∀ ds O R RE, dsp ds O R RE → ds.length = ps.length)
    (hder : ∀ (cdv : Value) (A : Around) (outer : List Env) (s : Shared) (H : Hp) (E : XK), Room k (A.deeper (envOfC qual (defScope st) s.heap.objs.size f cdv)) →
      DSs MT (cxOf CX0 P w K mg base N qual (defScope st) f cdv A outer s H E).nox (defBody st) g)
    (hread : ∀ ds O R RE, dsp ds O R RE → g { nx := fun _ O' => VG R .non O', rt := VG R } (startD N ds) O) : FnOk P w K mg base CX0 (k + 1) f fd ps (liftSp K dsp) := by
  refine F.ok S (fun vs H Q E h => ?_) fun cdv A outer s H vs Q E hr h => ?_
  · obtain ⟨F, O, P, ds, R, RE, g, r, q, _⟩ := h
    rw [← r.length]; exact len ds O R RE q
  · obtain ⟨F, O, P, ds, R, RE, gd, r, q, po, _⟩ := h
    refine ⟨_, hder cdv A outer s H E hr, F, O, P, startD N ds, { nx := fun _ O' => VG R .non O', rt := VG R }, gd, ?_, hread ds O R RE q, ⟨fun ρ O' F' H' σ q1 s1 g1 _ => ?_, fun d O' F' H' v q1 s1 g1 r1 => ?_, fun _ _ _ _ _ z => z.elim, fun _ _ _ _ _ z => z.elim⟩⟩
    · unfold startD L2.start
      rw [r.length]
      exact envOk_start _ r
    · obtain ⟨O2, s2, q2⟩ := q1
      exact po .non O2 F' H' .non q2 s1 (g1.sub s2) (by simp only [Rep])
    · obtain ⟨O2, s2, q2⟩ := q1
      exact po d O2 F' H' v q2 s1 (g1.sub s2) r1
end
theorem VG.at {R : VD} {d : D} {O : Ow} (h : R d O) : VG R d O := ⟨O, Sub.refl _, h⟩
theorem VG.up {R : VD} {d : D} {O : Ow} {p : Addr} {c : Cell} (h : O p = none) (q : R d O) : VG R d (updO O p c) := ⟨O, sub_upd h, q⟩
theorem rSl_l {xs : List D} {lo hi : Option Int} {O : Ow} {Q : VD} : rSlD (.lst xs) lo hi O Q = Q (.lst (cut xs lo hi)) O := rfl
theorem rSl_t {xs : List D} {lo hi : Option Int} {O : Ow} {Q : VD} (h : ¬ (HT.sIx xs.length 0 lo = 0 ∧ HT.sIx xs.length xs.length hi = xs.length)) : rSlD (.tup xs) lo hi O Q = Q (.tup (cut xs lo hi)) O := by simp only [rSlD, deref, h, not_false_eq_true, true_and]
end Kf
namespace Kf
open PySem PySem.Spec L2
open PyProof.Rows hiding St
variable {M : MX}
/-! ### t < u of pairs (a number, a truth) -/
section
variable {X : Cx}
end
end Kf
namespace Kf
open PySem PySem.Spec L2
open PyProof.Rows hiding St
variable {M : MX}

/-! ### exceptions: what is wished of one, over data -/
abbrev XW := Value → Option (List (Str × D)) → DEnv → Ow → Prop
def PostW (K : PySem.W.Frag) (F P : Hp) (RX : XW) (W : WX) : Prop := ∀ cls fs ρ O' F' H' dd σ, RX cls fs ρ O' → Same F F' → Gd MT K F' O' P H' → XdOk K F' H' fs dd → EnvOk K F' ρ σ → W cls dd σ H'
def mxw (K : PySem.W.Frag) (RX : XW) (W : WX) : MX where
  rel F P := ∃ P0, Same P0 P ∧ PostW K F P0 RX W
  mono := fun ⟨P0, s0, po⟩ s s' => ⟨P0, s0.trans s', fun cls fs ρ O' F' H' dd σ q s2 => po cls fs ρ O' F' H' dd σ q (s.trans s2)⟩
theorem Gd.wish {K : PySem.W.Frag} {F P H : Hp} {O : Ow} {RX : XW} {W : WX} {cls : Value} {fs : Option (List (Str × D))} {ρ : DEnv} {dd : Option Addr} {σ : L2.St}
    (g : Gd (mxw K RX W) K F O P H) (q : RX cls fs ρ O) (x : XdOk K F H fs dd) (en : EnvOk K F ρ σ) : W cls dd σ H := by
  obtain ⟨P0, s0, po⟩ := g.rl
  exact po cls fs ρ O F H dd σ q (Same.refl _) (g.mt.less s0) x en
/-- of nothing -/
abbrev RX0 : XW := fun _ _ _ _ => False

/-- an own class of exceptions without an __init__ of its own -/
structure ExN (K : PySem.W.Frag) (mg : Str → Option Value) (x : Str) (C : Addr) : Prop where
  g : mg x = some (.ref C)
  ex : PySem.W.excIn K C [.type "ValueError", .type "Exception", .type "BaseException", .type "object"] "ValueError.__new__" = true
  kp : PySem.W.keepIn K (.ref C) = true
  sb : PySem.W.subIn K (.ref C) (.type "BaseException") = some true
  ty : PySem.W.typeIn K (.ref C) = some (.type "type")

section
variable {X : Cx} {RX : XW} {W : WX} {x m : Str} {C : Addr} {j : Nat} {p p2 pos pos' : Pos}
def gRaise (RX : XW) (cls : Value) : GS := fun _ ρ O => RX cls none ρ O
end
section
variable {X : Cx} {RX : XW} {W : WX} {e : Expr} {es : List Expr} {fr : FA} {k : Nat} {f : Addr} {fd : FuncData} {ps : List Str} {dsp : DSp} {x : Str} {st : Stmt} {p pos : Pos}
/-- a call that may raise -/
def fCallX (dsp : DSp) (RX : XW) (fr : FA) : FE := fun ρ O Q => fr ρ O fun ds O1 => dsp ds O1 Q fun cls fs O' => RX cls fs ρ O'
theorem de_callX (N : Fn X.K X.mg x st ps f fd) (G : FnOk X.prog X.w X.K X.mg X.base (L2.CX X.prog X.w) k f fd ps (liftSp X.K dsp)) (hr : Room k X.A) (tk : Takes X W) (hg : Gl X x)
    (ha : DA (mxw X.K RX W) X (e :: es) fr) (hdb : (x == ("__debug__" : Str)) = false := by decide) (he : starEach (e :: es) X.env = (false, eval e X.env) :: starEach es X.env := by rfl) (hpl : (backTo pos (starEach es X.env)).any (·.1) = false := by rfl) :
    DE (mxw X.K RX W) X (.Call (.Name x p) (e :: es) [] pos) (fCallX dsp RX fr) := peMono (pe_callS G hr hg N.m N.F.kp N.b (fun σ => passAt tk σ) ha hdb he hpl) fun σ H Q h => by
  obtain ⟨F, O, P, ρ, R, g, en, q, po⟩ := h
  refine ⟨F, O, P, ρ, _, g, en, q, fun ds O1 F1 H1 vs q1 s1 g1 r1 => ?_⟩
  refine ⟨F1, O1, P, ds, R, _, g1.mt, r1, q1, po.mt g1 s1, fun cls fs O' F' H' dd q2 s2 g2 xd => ?_⟩
  exact (g2.re ((mxw X.K RX W).mono g1.rl s2 (Same.refl _))).wish q2 xd (en.mono (s1.trans s2))
end
section
variable {P : Program} {w : World} {K : PySem.W.Frag} {mg : Str → Option Value} {base : Heap}
/-- at the end what is owned besides is forgotten -/
def XG (RE : XD) : XW := fun cls fs _ O' => ∃ O, Sub O O' ∧ RE cls fs O
/-- a def that may raise, by its reading -/
theorem fn_dX {x qual : Str} {st : Stmt} {f : Addr} {fd : FuncData} {N ps : List Str} {k : Nat} {dsp : DSp} {g : XW → GS} (F : Fun K x qual st f fd) (S : FnScope N ps (defScope st)) (len : ∀ ds O R RE, dsp ds O R RE → ds.length = ps.length)
    (hder : ∀ (RX : XW) (W : WX) (cdv : Value) (A : Around) (outer : List Env) (s : Shared) (H : Hp) (E : XK), Takes (cxOf (L2.CX P w) P w K mg base N qual (defScope st) f cdv A outer s H E) W →
      PassesOwn (model (cxOf (L2.CX P w) P w K mg base N qual (defScope st) f cdv A outer s H E).prog (cxOf (L2.CX P w) P w K mg base N qual (defScope st) f cdv A outer s H E).w) (cxOf (L2.CX P w) P w K mg base N qual (defScope st) f cdv A outer s H E).A (cxOf (L2.CX P w) P w K mg base N qual (defScope st) f cdv A outer s H E).env (cxOf (L2.CX P w) P w K mg base N qual (defScope st) f cdv A outer s H E).xe →
      Room k (A.deeper (envOfC qual (defScope st) s.heap.objs.size f cdv)) →
      DSs (mxw K RX W) (cxOf (L2.CX P w) P w K mg base N qual (defScope st) f cdv A outer s H E) (defBody st) (g RX))
    (hread : ∀ ds O R RE, dsp ds O R RE → g (XG RE) { nx := fun _ O' => VG R .non O', rt := VG R } (startD N ds) O) : FnOk P w K mg base (L2.CX P w) (k + 1) f fd ps (liftSp K dsp) := by
  refine F.okX S (fun vs H Q E h => ?_) fun cdv A outer s H vs Q E hr h => ?_
  · obtain ⟨F, O, P, ds, R, RE, g, r, q, _⟩ := h
    rw [← r.length]; exact len ds O R RE q
  · obtain ⟨F, O, P', ds, R, RE, gd, r, q, po, px⟩ := h
    have tk : Takes (cxOf (L2.CX P w) P w K mg base N qual (defScope st) f cdv A outer s H E) (fun cls d _ H => E cls d H) := takes_of rfl rfl rfl rfl
    refine ⟨_, hder (XG RE) _ cdv A outer s H E tk (passes_of rfl) hr, F, O, P', startD N ds, { nx := fun _ O' => VG R .non O', rt := VG R }, gd.re ⟨P', Same.refl _, fun cls fs ρ O' F' H' dd σ q1 s1 g1 xd _ => ?_⟩, ?_, hread ds O R RE q, ⟨fun ρ O' F' H' σ q1 s1 g1 _ => ?_, fun d O' F' H' v q1 s1 g1 r1 => ?_, fun _ _ _ _ _ z => z.elim, fun _ _ _ _ _ z => z.elim⟩⟩
    · obtain ⟨O2, s2, q2⟩ := q1
      exact px cls fs O2 F' H' dd q2 s1 (g1.sub s2) xd
    · unfold startD L2.start
      rw [r.length]
      exact envOk_start _ r
    · obtain ⟨O2, s2, q2⟩ := q1
      exact po .non O2 F' H' .non q2 s1 (g1.mt.sub s2) (by simp only [Rep])
    · obtain ⟨O2, s2, q2⟩ := q1
      exact po d O2 F' H' v q2 s1 (g1.mt.sub s2) r1
end

/-! ### try -/
def mxe (K : PySem.W.Frag) (fs : Option (List (Str × D))) (d : Option Addr) : MX where
  rel F _ := XdR K F fs d
  mono := fun h s _ => h.mono s
/-- the fields are held still -/
theorem Gd.holdX {K : PySem.W.Frag} {F P H : Hp} {O : Ow} {fs : Option (List (Str × D))} {dd : Option Addr} (g : Gd MT K F O P H) (x : XdOk K F H fs dd) : ∃ F', Same F F' ∧ Gd (mxe K fs dd) K F' O P H := ⟨F, Same.refl _, g.re x⟩
end Kf
namespace Kf
open PySem PySem.Spec L2
open PyProof.Rows hiding St
variable {M : MX}

def liftSW (K : PySem.W.Frag) (W : WX) (g : XW → GS) : TS := fun D σ H => ∃ RX, liftS (mxw K RX W) K (g RX) D σ H
def liftSE (K : PySem.W.Frag) (g : Option (List (Str × D)) → GS) (d : Option Addr) : TS := fun D σ H => ∃ fs, liftS (mxe K fs d) K (g fs) D σ H
theorem PostS.re {M' : MX} {K : PySem.W.Frag} {F P H : Hp} {O : Ow} {R : DEnds} {D : Ends} (po : PostS M K F P R D) (g : Gd M K F O P H) : PostS M' K F P R D :=
  ⟨fun ρ O' F' H' σ q s g' en => po.nx ρ O' F' H' σ q s (g'.re (M.mono g.rl s (Same.refl _))) en, fun d O' F' H' v q s g' r => po.rt d O' F' H' v q s (g'.re (M.mono g.rl s (Same.refl _))) r,
    fun ρ O' F' H' σ q s g' en => po.bk ρ O' F' H' σ q s (g'.re (M.mono g.rl s (Same.refl _))) en, fun ρ O' F' H' σ q s g' en => po.ct ρ O' F' H' σ q s (g'.re (M.mono g.rl s (Same.refl _))) en⟩
/-- what is wished outside -/
def Outs (M : MX) (K : PySem.W.Frag) (RXo : XW) (Wo : WX) : Prop := ∀ F O P H cls fs ρ dd σ, Gd M K F O P H → RXo cls fs ρ O → XdOk K F H fs dd → EnvOk K F ρ σ → Wo cls dd σ H
theorem outs0 {K : PySem.W.Frag} : Outs M K RX0 (fun _ _ _ _ => False) := fun _ _ _ _ _ _ _ _ _ _ z _ _ => z
section
variable {X : Cx} {x n : Str} {c : Value} {i : Nat} {body suite : List Stmt} {b₀ : Stmt} {np pos pos' : Pos} {gb : XW → GS} {gs : Addr → Value → Option (List (Str × D)) → GS} {RXo : XW} {Wo : WX}
theorem pss_sw {W : WX} (h : ∀ RX, DSs (mxw X.K RX W) X body (gb RX)) : PSs X body (liftSW X.K W gb) := ⟨fun pins s σ H D I ⟨RX, q⟩ => (h RX).run pins s σ H D I q⟩
theorem pss_se {d : Option Addr} {g : Option (List (Str × D)) → GS} (h : ∀ fs, DSs (mxe X.K fs d) X body (g fs)) : PSs X body (liftSE X.K g d) := ⟨fun pins s σ H D I ⟨fs, q⟩ => (h fs).run pins s σ H D I q⟩
/-- the ends with slot i empty -/
def endsNo (i : Nat) (R : DEnds) : DEnds := { nx := fun ρ O => R.nx (ρ.set i none) O, rt := R.rt, bk := fun ρ O => R.bk (ρ.set i none) O, ct := fun ρ O => R.ct (ρ.set i none) O }
def xAs (K : PySem.W.Frag) (c : Value) (i : Nat) (gs : Addr → Value → Option (List (Str × D)) → GS) (RXo : XW) (R : DEnds) : XW := fun cls fs ρ O => ∃ b, PySem.W.exmOne K cls c = some b ∧
  (b = true → ∀ a, O a = none → gs a cls fs (endsNo i R) (ρ.set i (some (.ref a))) O) ∧ (b = false → RXo cls fs ρ O)
def xOnly (K : PySem.W.Frag) (c : Value) (gs : Addr → Value → Option (List (Str × D)) → GS) (RXo : XW) (R : DEnds) : XW := fun cls fs ρ O => ∃ b, PySem.W.exmOne K cls c = some b ∧
  (b = true → ∀ a, O a = none → gs a cls fs R ρ O) ∧ (b = false → RXo cls fs ρ O)
/-- try: .. except C as n: .. -/
def gTryAs (K : PySem.W.Frag) (c : Value) (i : Nat) (gb : XW → GS) (gs : Addr → Value → Option (List (Str × D)) → GS) (RXo : XW) : GS := fun R ρ O => gb (xAs K c i gs RXo R) R ρ O
/-- try: .. except C: .. -/
def gTry (K : PySem.W.Frag) (c : Value) (gb : XW → GS) (gs : Addr → Value → Option (List (Str × D)) → GS) (RXo : XW) : GS := fun R ρ O => gb (xOnly K c gs RXo R) R ρ O
end
/-! ### isinstance of the exception that a suite holds -/
def clsD : D → Value → Prop
  | .ref C, v => v = .ref C
  | .ty n, v => v = .type n
  | _, _ => False
theorem clsD.uniq {K : PySem.W.Frag} {F : Hp} {d : D} {cv u : Value} {v : V} (h : clsD d cv) (r : Rep K F d v) (rv : RelV v u) : u = cv := by
  unfold clsD at h
  split at h
  · simp only [Rep] at r; subst r; subst h; exact rv
  · simp only [Rep] at r; subst r; subst h; exact rv
  · exact h.elim
theorem clsDs {K : PySem.W.Frag} {F : Hp} : ∀ {ds : List D} {cs us : List Value} {vs : List V}, Paired clsD ds cs → RepAll K F ds vs → Vals vs us → us = cs
  | [], _, us, vs, .nil, r, rv => by simp only [RepAll] at r; subst r; cases rv; rfl
  | d :: ds, _, us, vs, .cons h t, r, rv => by
    simp only [RepAll] at r
    obtain ⟨v, w, rfl, r1, r2⟩ := r
    cases rv with
    | cons a b => rw [h.uniq r1 a, clsDs t r2 b]
end Kf
namespace Kf
open PySem PySem.Spec L2
open PyProof.Rows hiding St
/-- an own class of exceptions, as it is named -/
structure Cl (K : PySem.W.Frag) (mg : Str → Option Value) (x : Str) (C : Addr) : Prop where
  g : mg x = some (.ref C)
  sb : PySem.W.subIn K (.ref C) (.type "BaseException") = some true
  hd : PySem.W.hasDictIn K C = true
  ty : PySem.W.typeIn K (.ref C) = some (.type "type")
  sf : PySem.W.subIn K (.ref C) (.ref C) = some true
section
variable {K : PySem.W.Frag} {mg : Str → Option Value} {x : Str} {C D : Addr} {cls : Value} {b : Bool}
theorem cst_cls (c : Cl K mg x C) : Cst K mg x (.ref C) := ⟨_, .ref C, c.g, rfl, fun _ => by simp only [Rep]⟩
theorem Cl.exm (c : Cl K mg x C) (h : PySem.W.subIn K cls (.ref C) = some b) : PySem.W.exmOne K cls (.ref C) = some b := PySem.W.exm_ref c.sb c.hd c.ty h
theorem Cl.kit (c : Cl K mg x C) (h : PySem.W.subIn K (.ref D) (.ref C) = some b) : PySem.W.kitOne K (.ref D) (.ref C) = some b := by
  unfold PySem.W.kitOne
  by_cases e : D = C
  · subst e
    rw [c.sf] at h
    cases h
    rw [if_pos (by simp)]
  · rw [if_neg (by simpa using e)]
    obtain ⟨cd, hc, _⟩ := PySem.W.any_some c.hd
    have e2 : ((PySem.W.clsIn K C).isSome && PySem.W.typeIn K (.ref C) == some (.type "type")) = true := by rw [hc, c.ty] <;> rfl
    show (if ((PySem.W.clsIn K C).isSome && PySem.W.typeIn K (.ref C) == some (.type "type")) = true then PySem.W.subIn K (.ref D) (.ref C) else none) = some b
    rw [if_pos e2, h]
theorem kit_VE (h : PySem.W.subIn K (.ref D) (.type "ValueError") = some b) : PySem.W.kitOne K (.ref D) (.type "ValueError") = some b := by
  unfold PySem.W.kitOne
  rw [if_neg (by simp)]
  show (if PySem.W.kitMeta "ValueError" = true then PySem.W.subIn K (.ref D) (.type "ValueError") else none) = some b
  rw [if_pos (by decide +kernel), h]
theorem kitAny_no (h : ∀ c ∈ cs, PySem.W.kitOne K cls c = some false) : PySem.W.kitAny K cls cs = some false := by
  induction cs with
  | nil => rfl
  | cons c r ih =>
    unfold PySem.W.kitAny
    rw [h c List.mem_cons_self]
    exact ih fun c' hc => h c' (List.mem_cons_of_mem _ hc)
end
theorem bb_ValueError : bootBuiltins "ValueError" = some (.type "ValueError") := by decide +kernel
end Kf
namespace Kf
open PySem PySem.Spec L2
open PyProof.Rows hiding St
variable {M : MX}
section
variable {X : Cx} {e : Expr} {es : List Expr} {fr : FA} {k : Nat} {f : Addr} {fd : FuncData} {ps : List Str} {dsp : DSp} {x : Str} {st : Stmt} {p pos : Pos}
end
/-! ### text * 0, text * 1 -/
section
variable {X : Cx}
end
end Kf
namespace Kf
open PySem PySem.Spec L2
open PyProof.Rows hiding St
variable {M : MX}
/-! ### xs[::-1] -/
section
variable {X : Cx} {e st : Expr} {fa : FE} {te : TE} {tst : TO} {fs : FO} {pos p2 : Pos}
def rRevD (x : D) (o : Option Int) (O : Ow) (Q : VD) : Prop := o = some (-1) ∧ match deref O x with
  | .lst xs => Q (.lst xs.reverse) O
  | _ => False
def fRev (fa : FE) (fs : FO) : FE := fun ρ O Q => fa ρ O fun x O1 => fs ρ O1 fun o O2 => rRevD x o O2 Q
theorem rRev_l {xs : List D} {O : Ow} {Q : VD} : rRevD (.lst xs) (some (-1)) O Q = Q (.lst xs.reverse) O := by simp [rRevD, deref]
end
/-! ### reversed(range(n)) -/
section
variable {X : Cx} {tg a : Expr} {fa : FE} {p p2 pos pos2 : Pos}
def asIR (d : D) (O : Ow) (Q : List D → Ow → Prop) : Prop := match d with
  | .int n => -(2 ^ 62) ≤ n ∧ n < 2 ^ 62 ∧ Q (rangeD 0 n.toNat).reverse O
  | _ => False
def fiRevR (fa : FE) : FI := fun ρ O Q => fa ρ O fun d O1 => asIR d O1 Q
theorem asIR_i {n : Int} {O : Ow} {Q : List D → Ow → Prop} : asIR (.int n) O Q = (-(2 ^ 62) ≤ n ∧ n < 2 ^ 62 ∧ Q (rangeD 0 n.toNat).reverse O) := rfl
end
/-! ### sorted, of texts -/
section
variable {X : Cx}
end
end Kf
namespace Kf
open PySem PySem.Spec L2
open PyProof.Rows hiding St
variable {M : MX}
section
variable {X : Cx} {pos : Pos}
/-- {} that never changes -/
def fEdic : FE := fun _ O Q => Q .edic O
end
end Kf
namespace Kf
open PySem PySem.Spec L2
open PyProof.Rows hiding St
/-! ### the readings at their arguments -/
theorem ap_gSeq (g u : GS) {R : DEnds} {ρ : DEnv} {O : Ow} : gSeq g u R ρ O = (g { R with nx := u R } ρ O) := rfl
theorem ap_gIf (c : FT) (g u : GS) {R : DEnds} {ρ : DEnv} {O : Ow} : gIf c g u R ρ O = (c ρ O fun b O1 => if b = true then g R ρ O1 else u R ρ O1) := rfl
theorem ap_gRet (fe : FE) {R : DEnds} {ρ : DEnv} {O : Ow} : gRet fe R ρ O = (fe ρ O R.rt) := rfl
theorem ap_gNext  {R : DEnds} {ρ : DEnv} {O : Ow} : gNext  R ρ O = (R.nx ρ O) := rfl
theorem ap_gSet (fe : FE) (i : Nat) {R : DEnds} {ρ : DEnv} {O : Ow} : gSet fe i R ρ O = (fe ρ O fun d O1 => R.nx (ρ.set i (some d)) O1) := rfl
theorem ap_gAsg (fe : FE) (p : Pat) {R : DEnds} {ρ : DEnv} {O : Ow} : gAsg fe p R ρ O = (fe ρ O fun d O1 => patGet (patD p d ρ) fun ρ' => R.nx ρ' O1) := rfl
theorem ap_gDrop (fe : FE) {R : DEnds} {ρ : DEnv} {O : Ow} : gDrop fe R ρ O = (fe ρ O fun _ O1 => R.nx ρ O1) := rfl
theorem ap_gRetF (fe : FE) {R : DEnds} {ρ : DEnv} {O : Ow} : gRetF fe R ρ O = (fe ρ O fun d O1 => match d with
  | .ref a => match O1 a with
    | some (.lst ds) => R.rt (.lst ds) (delO O1 a)
    | _ => False
  | _ => False) := rfl
theorem ap_gRetN  {R : DEnds} {x1_ : DEnv} {O : Ow} : gRetN  R x1_ O = (R.rt .non O) := rfl
theorem ap_gFor (fi : FI) (p : Pat) (gb : GS) {R : DEnds} {ρ : DEnv} {O : Ow} : gFor fi p gb R ρ O = (fi ρ O fun ds O1 => forD p gb R ds ρ O1) := rfl
theorem ap_gSetIx (fo fi fe : FE) {R : DEnds} {ρ : DEnv} {O : Ow} : gSetIx fo fi fe R ρ O = (fe ρ O fun d O1 => fo ρ O1 fun x O2 => fi ρ O2 fun y O3 => rSetD x y d O3 (R.nx ρ)) := rfl
theorem ap_gBreak  {R : DEnds} {ρ : DEnv} {O : Ow} : gBreak  R ρ O = (R.bk ρ O) := rfl
theorem ap_fRev (fa : FE) (fs : FO) {ρ : DEnv} {O : Ow} {Q : VD} : fRev fa fs ρ O Q = (fa ρ O fun x O1 => fs ρ O1 fun o O2 => rRevD x o O2 Q) := rfl
theorem ap_fiRevR (fa : FE) {ρ : DEnv} {O : Ow} {Q : (List D → Ow → Prop)} : fiRevR fa ρ O Q = (fa ρ O fun d O1 => asIR d O1 Q) := rfl
theorem ap_fCallX (dsp : DSp) (RX : XW) (fr : FA) {ρ : DEnv} {O : Ow} {Q : VD} : fCallX dsp RX fr ρ O Q = (fr ρ O fun ds O1 => dsp ds O1 Q fun cls fs O' => RX cls fs ρ O') := rfl
theorem ap_gRaise (RX : XW) (cls : Value) {x0_ : DEnds} {ρ : DEnv} {O : Ow} : gRaise RX cls x0_ ρ O = (RX cls none ρ O) := rfl
theorem ap_gTry (K : PySem.W.Frag) (c : Value) (gb : XW → GS) (gs : Addr → Value → Option (List (Str × D)) → GS) (RXo : XW) {R : DEnds} {ρ : DEnv} {O : Ow} : gTry K c gb gs RXo R ρ O = (gb (xOnly K c gs RXo R) R ρ O) := rfl
theorem ap_gTryAs (K : PySem.W.Frag) (c : Value) (i : Nat) (gb : XW → GS) (gs : Addr → Value → Option (List (Str × D)) → GS) (RXo : XW) {R : DEnds} {ρ : DEnv} {O : Ow} : gTryAs K c i gb gs RXo R ρ O = (gb (xAs K c i gs RXo R) R ρ O) := rfl
theorem ap_gNever  {x0_ : DEnds} {x1_ : DEnv} {x2_ : Ow} : gNever  x0_ x1_ x2_ = (False) := rfl
theorem ap_fEdic  {x0_ : DEnv} {O : Ow} {Q : VD} : fEdic  x0_ O Q = (Q .edic O) := rfl
theorem ap_fTest (f : FE) {ρ : DEnv} {O : Ow} {Q : (Bool → Ow → Prop)} : fTest f ρ O Q = (f ρ O fun d O1 => ∃ k, d = .bl k ∧ Q k O1) := rfl
theorem ap_fOp (r : R2D) (fa fb : FE) {ρ : DEnv} {O : Ow} {Q : VD} : fOp r fa fb ρ O Q = (fa ρ O fun x O1 => fb ρ O1 fun y O2 => r x y O2 Q) := rfl
theorem ap_fVar (i : Nat) {ρ : DEnv} {O : Ow} {Q : VD} : fVar i ρ O Q = (envGet ρ[i]? O Q) := rfl
theorem ap_fC (d : D) {x0_ : DEnv} {O : Ow} {Q : VD} : fC d x0_ O Q = (Q d O) := rfl
theorem ap_fCB (r : RAD) (fr : FA) {ρ : DEnv} {O : Ow} {Q : VD} : fCB r fr ρ O Q = (fr ρ O fun ds O1 => r ds O1 Q) := rfl
theorem ap_fCons (fa : FE) (fr : FA) {ρ : DEnv} {O : Ow} {Q : (List D → Ow → Prop)} : fCons fa fr ρ O Q = (fa ρ O fun x O1 => fr ρ O1 fun xs O2 => Q (x :: xs) O2) := rfl
theorem ap_fNil  {x0_ : DEnv} {O : Ow} {Q : (List D → Ow → Prop)} : fNil  x0_ O Q = (Q [] O) := rfl
theorem ap_fCall (dsp : DSp) (fr : FA) {ρ : DEnv} {O : Ow} {Q : VD} : fCall dsp fr ρ O Q = (fr ρ O fun ds O1 => dsp ds O1 Q X0) := rfl
theorem ap_fAnd (t u : FT) {ρ : DEnv} {O : Ow} {Q : (Bool → Ow → Prop)} : fAnd t u ρ O Q = (t ρ O fun c O1 => if c = true then u ρ O1 Q else Q false O1) := rfl
theorem ap_fOr (t u : FT) {ρ : DEnv} {O : Ow} {Q : (Bool → Ow → Prop)} : fOr t u ρ O Q = (t ρ O fun c O1 => if c = true then Q true O1 else u ρ O1 Q) := rfl
theorem ap_fNot (t : FT) {ρ : DEnv} {O : Ow} {Q : (Bool → Ow → Prop)} : fNot t ρ O Q = (t ρ O fun c O1 => Q (!c) O1) := rfl
theorem ap_fAndV (fa fb : FE) {ρ : DEnv} {O : Ow} {Q : VD} : fAndV fa fb ρ O Q = (fa ρ O fun x O1 => ∃ c, x = .bl c ∧ if c = true then fb ρ O1 Q else Q (.bl false) O1) := rfl
theorem ap_fOrV (fa fb : FE) {ρ : DEnv} {O : Ow} {Q : VD} : fOrV fa fb ρ O Q = (fa ρ O fun x O1 => ∃ c, x = .bl c ∧ if c = true then Q (.bl true) O1 else fb ρ O1 Q) := rfl
theorem ap_fNotV (fa : FE) {ρ : DEnv} {O : Ow} {Q : VD} : fNotV fa ρ O Q = (fa ρ O fun x O1 => ∃ c, x = .bl c ∧ Q (.bl (!c)) O1) := rfl
theorem ap_fIf (t : FT) (fa fb : FE) {ρ : DEnv} {O : Ow} {Q : VD} : fIf t fa fb ρ O Q = (t ρ O fun c O1 => if c = true then fa ρ O1 Q else fb ρ O1 Q) := rfl
theorem ap_fTup (fr : FA) {ρ : DEnv} {O : Ow} {Q : VD} : fTup fr ρ O Q = (fr ρ O fun xs O1 => xs.length ≤ sizeLine ∧ Q (.tup xs) O1) := rfl
theorem ap_fLst (fr : FA) {ρ : DEnv} {O : Ow} {Q : VD} : fLst fr ρ O Q = (fr ρ O fun xs O1 => xs.length ≤ sizeLine ∧ Q (.lst xs) O1) := rfl
theorem ap_fLstO (fr : FA) {ρ : DEnv} {O : Ow} {Q : VD} : fLstO fr ρ O Q = (fr ρ O fun xs O1 => xs.length ≤ sizeLine ∧ ∀ p, O1 p = none → Q (.ref p) (updO O1 p (.lst xs))) := rfl
theorem ap_fChain (r r' : R2D) (fa fb fc : FE) {ρ : DEnv} {O : Ow} {Q : VD} : fChain r r' fa fb fc ρ O Q = (fa ρ O fun x O1 => fb ρ O1 fun y O2 => r x y O2 fun z O3 => ∃ k, z = .bl k ∧ (if k = true then fc ρ O3 fun w O4 => r' y w O4 Q else Q (.bl false) O3)) := rfl
theorem ap_fUn (r : R1D) (f : FE) {ρ : DEnv} {O : Ow} {Q : VD} : fUn r f ρ O Q = (f ρ O fun x O1 => r x O1 Q) := rfl
theorem ap_fBM (T : String) (r : RMD) (fo : FE) (fr : FA) {ρ : DEnv} {O : Ow} {Q : VD} : fBM T r fo fr ρ O Q = (fo ρ O fun x O1 => tyOk T O1 x = true ∧ fr ρ O1 fun ds O2 => r x ds O2 Q) := rfl
theorem ap_fBM0 (T : String) (r : RMD) (fo : FE) {ρ : DEnv} {O : Ow} {Q : VD} : fBM0 T r fo ρ O Q = (fo ρ O fun x O1 => tyOk T O1 x = true ∧ r x [] O1 Q) := rfl
theorem ap_fPool (fr : FA) {ρ : DEnv} {O : Ow} {Q : VD} : fPool fr ρ O Q = (fr ρ O fun xs O1 => rPool xs O1 Q) := rfl
theorem ap_fSl (r : R3D) (fe : FE) (fl fh : FO) {ρ : DEnv} {O : Ow} {Q : VD} : fSl r fe fl fh ρ O Q = (fe ρ O fun x O1 => fl ρ O1 fun l O2 => fh ρ O2 fun u O3 => r x l u O3 Q) := rfl
theorem ap_fPart (f : FE) {ρ : DEnv} {O : Ow} {Q : (Option Int → Ow → Prop)} : fPart f ρ O Q = (f ρ O fun d O1 => asI d O1 Q) := rfl
theorem ap_fNoPart  {x0_ : DEnv} {O : Ow} {Q : (Option Int → Ow → Prop)} : fNoPart  x0_ O Q = (Q none O) := rfl
theorem ap_fiRng1 (fr : FA) {ρ : DEnv} {O : Ow} {Q : (List D → Ow → Prop)} : fiRng1 fr ρ O Q = (fr ρ O fun ds O1 => asR1 ds O1 fun i n O2 => Q (rangeD i n) O2) := rfl
theorem ap_fiRng2 (fr : FA) {ρ : DEnv} {O : Ow} {Q : (List D → Ow → Prop)} : fiRng2 fr ρ O Q = (fr ρ O fun ds O1 => asR2 ds O1 fun i n O2 => Q (rangeD i n) O2) := rfl
theorem ap_fiList (fl : FE) {ρ : DEnv} {O : Ow} {Q : (List D → Ow → Prop)} : fiList fl ρ O Q = (fl ρ O fun d O1 => asL d O1 Q) := rfl
theorem ap_fiTup (fl : FE) {ρ : DEnv} {O : Ow} {Q : (List D → Ow → Prop)} : fiTup fl ρ O Q = (fl ρ O fun d O1 => asT d O1 Q) := rfl
theorem ap_fiStr (fl : FE) {ρ : DEnv} {O : Ow} {Q : (List D → Ow → Prop)} : fiStr fl ρ O Q = (fl ρ O fun d O1 => asSg d O1 Q) := rfl
theorem ap_fiEnum (fr : FA) {ρ : DEnv} {O : Ow} {Q : (List D → Ow → Prop)} : fiEnum fr ρ O Q = (fr ρ O fun ds O1 => asL1 ds O1 fun ds O2 => Q (enumD ds) O2) := rfl
theorem ap_fiZip (fr : FA) {ρ : DEnv} {O : Ow} {Q : (List D → Ow → Prop)} : fiZip fr ρ O Q = (fr ρ O fun ds O1 => asL2 ds O1 fun ds es O2 => Q (zipD ds es) O2) := rfl
theorem ap_fiRev (fr : FA) {ρ : DEnv} {O : Ow} {Q : (List D → Ow → Prop)} : fiRev fr ρ O Q = (fr ρ O fun ds O1 => asL1 ds O1 fun ds O2 => Q ds.reverse O2) := rfl
theorem ap_fLc (fi : FI) (p : Pat) (ft : FT) (fe : FE) (vs : List Nat) {ρ : DEnv} {O : Ow} {Q : VD} : fLc fi p ft fe vs ρ O Q = (fi ρ O fun ds O1 => lcD p ft fe (wipeD ρ vs) ds [] O1 fun acc O2 => Q (.lst acc) O2) := rfl
theorem ap_fLcO (fi : FI) (p : Pat) (ft : FT) (fe : FE) (vs : List Nat) {ρ : DEnv} {O : Ow} {Q : VD} : fLcO fi p ft fe vs ρ O Q = (fi ρ O fun ds O1 => lcD p ft fe (wipeD ρ vs) ds [] O1 fun acc O2 => ∀ q, O2 q = none → Q (.ref q) (updO O2 q (.lst acc))) := rfl
theorem ap_fYes  {x0_ : DEnv} {O : Ow} {Q : (Bool → Ow → Prop)} : fYes  x0_ O Q = (Q true O) := rfl
theorem ap_gAug (i : Nat) (fe : FE) (r : R2D) {R : DEnds} {ρ : DEnv} {O : Ow} : gAug i fe r R ρ O = (match ρ[i]? with
  | some (some x) => fe ρ O fun y O1 => r x y O1 fun z O2 => R.nx (ρ.set i (some z)) O2
  | _ => False) := rfl
end Kf
/-! Dl15: owned dicts whose keys are whole numbers and texts. -/
namespace Kf
open PySem PySem.Spec L2
open PyProof.Rows hiding St
variable {M : MX}
/-! ### tables of data -/
def keyOf : D → Option Key
  | .int i => some (.inl i)
  | .str s => some (.inr s)
  | _ => none
def keyD : Key → D
  | .inl i => .int i
  | .inr s => .str s
theorem keyOf_rep {K : PySem.W.Frag} {F : Hp} {d : D} {v : V} {k : Key} (h : keyOf d = some k) (r : Rep K F d v) : v = kV k := by
  cases d <;> simp only [keyOf] at h <;> first | cases h; done | skip
  all_goals
    cases h
    simp only [Rep] at r
    subst r
    rfl
theorem keyD_rep {K : PySem.W.Frag} {F : Hp} (k : Key) : Rep K F (keyD k) (kV k) := by
  cases k <;> simp only [keyD, Rep, kV]
def valD (kvs : List (Key × D)) (k : Key) : Option D := (kvs.find? fun kv => decide (kv.1 = k)).map (·.2)
def putD (kvs : List (Key × D)) (k : Key) (d : D) : List (Key × D) :=
  if (kvs.any fun kv => decide (kv.1 = k)) = true then kvs.map (fun kv => if kv.1 = k then (kv.1, d) else kv) else kvs ++ [(k, d)]
section
variable {K : PySem.W.Frag} {F H P : Hp} {O : Ow} {kvs : List (Key × D)} {vs : List (Key × V)} {k : Key} {d : D} {v : V} {a : Addr}
theorem KvOk.val (h : KvOk K F kvs vs) : (∀ d, valD kvs k = some d → ∃ v, valV vs k = some v ∧ Rep K F d v) ∧ (valD kvs k = none → valV vs k = none) := by
  induction h with
  | nil => exact ⟨fun d e => by simp [valD] at e, fun _ => rfl⟩
  | @cons p q _ _ r t ih =>
    obtain ⟨r1, r2⟩ := r
    by_cases e : p.1 = k
    · have e2 : q.1 = k := r1 ▸ e
      refine ⟨fun d h => ?_, fun h => ?_⟩
      · simp [valD, List.find?_cons, e] at h
        subst h
        exact ⟨q.2, valV_pos e2, r2⟩
      · simp [valD, List.find?_cons, e] at h
    · have e2 : ¬ q.1 = k := fun z => e (r1.trans z)
      rw [valV_neg e2]
      have e3 : ∀ l : List (Key × D), valD (p :: l) k = valD l k := fun l => by simp [valD, List.find?_cons, e]
      rw [e3]
      exact ih
theorem KvOk.any (h : KvOk K F kvs vs) : (kvs.any fun kv => decide (kv.1 = k)) = (vs.any fun kv => decide (kv.1 = k)) := by
  induction h with
  | nil => rfl
  | cons r _ ih => rw [List.any_cons, List.any_cons, ih, r.1]
theorem KvOk.put (h : KvOk K F kvs vs) (r : Rep K F d v) : KvOk K F (putD kvs k d) (putK vs k v) := by
  unfold putD putK
  rw [h.any (k := k)]
  split
  · rename_i hh; clear hh
    induction h with
    | nil => exact .nil
    | @cons p q _ _ z t ih =>
      rw [List.map_cons, List.map_cons]
      refine .cons ?_ ih
      by_cases e : p.1 = k
      · rw [if_pos e, if_pos (z.1 ▸ e)]; exact ⟨z.1, r⟩
      · rw [if_neg e, if_neg (fun w => e (z.1.trans w))]; exact z
  · exact Paired.snoc h ⟨rfl, r⟩
theorem KvOk.keys (h : KvOk K F kvs vs) : vs.map (·.1) = kvs.map (·.1) := by
  induction h with
  | nil => rfl
  | cons r _ ih => rw [List.map_cons, List.map_cons, ih, r.1]
/-- what a dict holds, locked or not -/
def dicAt (O : Ow) (a : Addr) : Option (List (Key × D)) := match O a with
  | some (.dic kvs) => some kvs
  | some (.dicL kvs _) => some kvs
  | _ => none
theorem Gd.dic (g : Gd M K F O P H) (h : dicAt O a = some kvs) : ∃ vs, Rd H a (.dK vs) ∧ KvOk K F kvs vs := by
  unfold dicAt at h
  split at h <;> first | cases h; done | skip
  · rename_i e
    cases h
    obtain ⟨_, _, vs, h1, h2⟩ := g.ow a _ e
    exact ⟨vs, .inl h1, h2⟩
  · rename_i e
    cases h
    obtain ⟨_, _, h1, od, vs, rfl, h2⟩ := g.ow a _ e
    exact ⟨vs, .inr ⟨od, h1⟩, h2⟩
/-- what stands at a key -/
def rKey (x y : D) (O : Ow) (N : Option D → Prop) : Prop := match x, keyOf y with
  | .ref a, some k => match dicAt O a with
    | some kvs => N (valD kvs k)
    | none => False
  | _, _ => False
theorem Gd.key (g : Gd M K F O P H) {x y : D} {w : V} {N : Option D → Prop} (rx : Rep K F x v) (ry : Rep K F y w) (q : rKey x y O N) :
    ∃ a o oV, v = .ref a ∧ DGet H a w oV ∧ IsD H a ∧ N o ∧ (∀ d, o = some d → ∃ z, oV = some z ∧ Rep K F d z) ∧ (o = none → oV = none) := by
  unfold rKey at q
  split at q <;> first | exact q.elim | skip
  rename_i a k e
  split at q <;> first | exact q.elim | skip
  rename_i kvs e2
  obtain ⟨vs, h1, h2⟩ := g.dic e2
  simp only [Rep] at rx
  have ew := keyOf_rep e ry
  subst ew
  obtain ⟨v1, v2⟩ := h2.val (k := k)
  exact ⟨a, _, _, rx, .inl ⟨vs, k, h1, rfl, rfl⟩, .inl ⟨vs, h1⟩, q, v1, v2⟩
end
section
variable {X : Cx} {o i e f value : Expr} {pos pos' apos cpos : Pos} {fo fi fe fx : FE}
/-- {} that changes -/
def fDicO : FE := fun _ O Q => ∀ p, O p = none → Q (.ref p) (updO O p (.dic []))
theorem de_dicO : DE M X (.Dict [] [] pos) fDicO := peMono pe_dnewK fun σ H Q h => by
  obtain ⟨F, O, P, ρ, R, g, en, q, po⟩ := h
  intro p hp
  exact po (.ref p) _ F _ _ (q p (g.freeO hp)) (Same.refl _) (g.newO hp ⟨[], upd_same, .nil⟩) (by simp only [Rep])
/-- d[k] -/
def rDGet (x y : D) (O : Ow) (Q : VD) : Prop := rKey x y O fun o => match o with
  | some d => Q d O
  | none => False
def fDGet (fo fi : FE) : FE := fun ρ O Q => fo ρ O fun x O1 => fi ρ O1 fun y O2 => rDGet x y O2 Q
theorem de_dget (hu : X.A.units + 200 < cLine) (ho : DE M X o fo) (hi : DE M X i fi) (hs : NoSl i := by intro _ _; rfl) : DE M X (.Subscript o i pos) (fDGet fo fi) := peMono (pe_dget (by omega) ho hi hs) fun σ H Q h => by
  obtain ⟨F, O, P, ρ, R, g, en, q, po⟩ := h
  refine ⟨F, O, P, ρ, _, g, en, q, fun x O1 F1 H1 v q1 s1 g1 r1 => ?_⟩
  refine ⟨F1, O1, P, ρ, _, g1, en.mono s1, q1, fun y O2 F2 H2 w q2 s2 g2 r2 => ?_⟩
  obtain ⟨a, od, oV, rfl, h1, _, n, h2, h3⟩ := g2.key (r1.mono s2) r2 q2
  cases od with
  | none => exact n.elim
  | some d =>
    obtain ⟨z, rfl, rz⟩ := h2 d rfl
    exact ⟨a, z, rfl, h1, (po.more (s1.trans s2)).at g2 n rz⟩
/-- d.get(k), d.get(k, x) -/
def isDc (O : Ow) (x : D) : Bool := match x with
  | .ref a => (dicAt O a).isSome
  | _ => false
def fDGet1 (fo fi : FE) : FE := fun ρ O Q => fo ρ O fun x O1 => isDc O1 x = true ∧ fi ρ O1 fun y O2 => rKey x y O2 fun o => Q (o.getD .non) O2
def fDGet2 (fo fi fx : FE) : FE := fun ρ O Q => fo ρ O fun x O1 => isDc O1 x = true ∧ fi ρ O1 fun y O2 => fx ρ O2 fun z O3 => rKey x y O3 fun o => Q (o.getD z) O3
/-- d[k] = v -/
def rDPut (x y d : D) (O : Ow) (N : Ow → Prop) : Prop := match x, keyOf y with
  | .ref a, some k => match O a with
    | some (.dic kvs) => kvs.length < sizeLine ∧ N (updO O a (.dic (putD kvs k d)))
    | _ => False
  | _, _ => False
def gDPut (fo fi fe : FE) : GS := fun R ρ O => fe ρ O fun d O1 => fo ρ O1 fun x O2 => fi ρ O2 fun y O3 => rDPut x y d O3 (R.nx ρ)
theorem ds_dput (hu : X.A.units + 200 < cLine) (ho : DE M X o fo) (hi : DE M X i fi) (he : DE M X value fe) (hs : swapsWith value (some (.Subscript o i pos')) pos.line X.env = pure false := by rfl) :
    DS M X (.Assign [.Subscript o i pos'] value pos) (gDPut fo fi fe) := psMono (ps_dput (by omega) ho hi he hs) fun D σ H h => by
  obtain ⟨F, O, P, ρ, R, g, en, q, po⟩ := h
  refine ⟨F, O, P, ρ, _, g, en, q, fun d O1 F1 H1 v q1 s1 g1 r1 => ?_⟩
  refine ⟨F1, O1, P, ρ, _, g1, en.mono s1, q1, fun x O2 F2 H2 w q2 s2 g2 r2 => ?_⟩
  refine ⟨F2, O2, P, ρ, _, g2, en.mono (s1.trans s2), q2, fun y O3 F3 H3 z q3 s3 g3 r3 => ?_⟩
  unfold rDPut at q3
  split at q3 <;> first | exact q3.elim | skip
  rename_i a k e
  split at q3 <;> first | exact q3.elim | skip
  rename_i kvs e2
  obtain ⟨_, _, vs, h1, h2⟩ := g3.ow a _ e2
  simp only [Rep] at r2
  subst r2
  have ez := keyOf_rep e r3
  subst ez
  have s4 := s1.trans (s2.trans s3)
  refine ⟨a, _, rfl, .k h1 (by rw [← h2.length]; exact q3.1), ?_⟩
  exact po.nx ρ _ F3 _ σ q3.2 s4 (g3.setO e2 ⟨_, upd_same, h2.put (r1.mono (s2.trans s3))⟩) (en.mono s4)
end
/-! ### the keys of a dict -/
section
variable {X : Cx}
end
/-! ### isinstance(x, (T1, T2, ..)) -/
section
variable {X : Cx} {a : Expr} {es : List Expr} {fa : FE} {fr : FA} {p pos tpos : Pos}
def asTys : List D → Option (List String)
  | [] => some []
  | .ty n :: r => (asTys r).map (n :: ·)
  | _ :: _ => none
def rIsiTs (x : D) (ds : List D) (O : Ow) (Q : VD) : Prop := match asTys ds with
  | some ns => ns.length ≤ sizeLine ∧ (ns.all fun n => insCl.contains n) = true ∧ insTy.contains (tyNm O x) = true ∧ Q (.bl (ns.any (insOf (tyNm O x)))) O
  | none => False
def fIsiT (fa : FE) (fr : FA) : FE := fun ρ O Q => fa ρ O fun x O1 => fr ρ O1 fun ds O2 => rIsiTs x ds O2 Q
end
/-! ### a walk along an owned list that stays -/
section
variable {X : Cx} {tg l : Expr} {fl : FE} {pos : Pos}
def forR (a : Addr) (all : List D) (p : Pat) (gb : GS) (R : DEnds) : List D → DEnv → Ow → Prop
  | [], ρ, O => O a = some (.lst all) ∧ R.nx ρ O
  | d :: ds, ρ, O => O a = some (.lst all) ∧ patGet (patD p d ρ) fun ρ1 => gb { R with nx := forR a all p gb R ds, ct := forR a all p gb R ds, bk := R.nx } ρ1 O
def asLR (d : D) (O : Ow) (Q : Addr → List D → Ow → Prop) : Prop := match d with
  | .ref a => match O a with
    | some (.lst ds) => Q a ds O
    | _ => False
  | _ => False
def gForR (fl : FE) (p : Pat) (gb : GS) : GS := fun R ρ O => fl ρ O fun x O1 => asLR x O1 fun a ds O2 => forR a ds p gb R ds ρ O2
end
/-! ### a list times a number -/
section
variable {X : Cx} {K : PySem.W.Frag} {F : Hp}
def rRepD : R2D := fun x y O Q => match x, y with
  | .lst ds, .int k => (-(2 ^ 63) ≤ k ∧ k < 2 ^ 63 ∧ ds.length * k.toNat ≤ sizeLine) ∧ Q (.lst (List.replicate k.toNat ds).flatten) O
  | _, _ => False
end
/-! ### a call without arguments -/
section
variable {X : Cx} {k : Nat} {f : Addr} {fd : FuncData} {ps : List Str} {dsp : DSp} {x : Str} {st : Stmt} {p pos : Pos}
theorem de_callN0 (N : Fn X.K X.mg x st ps f fd) (G : FnOk X.prog X.w X.K X.mg X.base CX0 k f fd ps (liftSp X.K dsp)) (hr : Room k X.A) (hg : Gl X x) (hdb : (x == ("__debug__" : Str)) = false := by decide) :
    DE M X (.Call (.Name x p) [] [] pos) (fCall dsp fNil) := peMono (pe_call0 G hr hg N.m N.F.kp N.b .nil pass0 hdb) fun σ H Q h => by
  obtain ⟨F, O, P, ρ, R, g, en, q, po⟩ := h
  show liftSp X.K dsp ([] ++ []) H Q E0
  exact ⟨F, O, P, [], R, X0, g.mt, .nil, q, po.mt g (Same.refl _), fun _ _ _ _ _ _ z => z.elim⟩
end
/-! ### the readings at their arguments -/
theorem ap_fDicO {ρ : DEnv} {O : Ow} {Q : VD} : fDicO ρ O Q = (∀ p, O p = none → Q (.ref p) (updO O p (.dic []))) := rfl
theorem ap_fDGet (fo fi : FE) {ρ : DEnv} {O : Ow} {Q : VD} : fDGet fo fi ρ O Q = (fo ρ O fun x O1 => fi ρ O1 fun y O2 => rDGet x y O2 Q) := rfl
theorem ap_fDGet1 (fo fi : FE) {ρ : DEnv} {O : Ow} {Q : VD} : fDGet1 fo fi ρ O Q = (fo ρ O fun x O1 => isDc O1 x = true ∧ fi ρ O1 fun y O2 => rKey x y O2 fun o => Q (o.getD .non) O2) := rfl
theorem ap_fDGet2 (fo fi fx : FE) {ρ : DEnv} {O : Ow} {Q : VD} : fDGet2 fo fi fx ρ O Q = (fo ρ O fun x O1 => isDc O1 x = true ∧ fi ρ O1 fun y O2 => fx ρ O2 fun z O3 => rKey x y O3 fun o => Q (o.getD z) O3) := rfl
theorem ap_gDPut (fo fi fe : FE) {R : DEnds} {ρ : DEnv} {O : Ow} : gDPut fo fi fe R ρ O = (fe ρ O fun d O1 => fo ρ O1 fun x O2 => fi ρ O2 fun y O3 => rDPut x y d O3 (R.nx ρ)) := rfl
theorem ap_fIsiT (fa : FE) (fr : FA) {ρ : DEnv} {O : Ow} {Q : VD} : fIsiT fa fr ρ O Q = (fa ρ O fun x O1 => fr ρ O1 fun ds O2 => rIsiTs x ds O2 Q) := rfl
theorem ap_gForR (fl : FE) (p : Pat) (gb : GS) {R : DEnds} {ρ : DEnv} {O : Ow} : gForR fl p gb R ρ O = (fl ρ O fun x O1 => asLR x O1 fun a ds O2 => forR a ds p gb R ds ρ O2) := rfl
section
variable {O : Ow} {a : Addr} {kvs : List (Key × D)} {Q : VD} {N : Option D → Prop} {k : Key} {x y d : D} {t : Str} {i : Int}
theorem rDPut_s {N : Ow → Prop} (h : O a = some (.dic kvs)) : rDPut (.ref a) (.str t) d O N = (kvs.length < sizeLine ∧ N (updO O a (.dic (putD kvs (.inr t) d)))) := by simp only [rDPut, keyOf, h]
theorem rRep_l {ds : List D} : rRepD (.lst ds) (.int i) O Q = ((-(2 ^ 63) ≤ i ∧ i < 2 ^ 63 ∧ ds.length * i.toNat ≤ sizeLine) ∧ Q (.lst (List.replicate i.toNat ds).flatten) O) := rfl
theorem sl1 : ((["list", "tuple"] : List String).length ≤ sizeLine) = True := by simp [sizeLine]
theorem isT_lt (h : insTy.contains (tyNm O x) = true) : rIsiTs x [.ty "list", .ty "tuple"] O Q = Q (.bl (["list", "tuple"].any (insOf (tyNm O x)))) O := by
  have e : asTys [D.ty "list", D.ty "tuple"] = some ["list", "tuple"] := rfl
  have e2 : ((["list", "tuple"] : List String).all fun n => insCl.contains n) = true := by decide
  simp only [rIsiTs, e, sl1, h, e2, true_and]
theorem isT_i : rIsiTs (.int i) [.ty "list", .ty "tuple"] O Q = Q (.bl false) O := isT_lt rfl
theorem isT_s : rIsiTs (.str t) [.ty "list", .ty "tuple"] O Q = Q (.bl false) O := isT_lt rfl
theorem isT_b {b : Bool} : rIsiTs (.bl b) [.ty "list", .ty "tuple"] O Q = Q (.bl false) O := isT_lt rfl
theorem isT_n : rIsiTs .non [.ty "list", .ty "tuple"] O Q = Q (.bl false) O := isT_lt rfl
theorem isT_t {xs : List D} : rIsiTs (.tup xs) [.ty "list", .ty "tuple"] O Q = Q (.bl true) O := isT_lt rfl
theorem isT_l {xs : List D} : rIsiTs (.lst xs) [.ty "list", .ty "tuple"] O Q = Q (.bl true) O := isT_lt rfl
end
/-! ### an owned list that a call tells, frozen at once -/
section
variable {X : Cx} {e : Expr} {fe : FE}
def rFrz (d : D) (O : Ow) (Q : VD) : Prop := match d with
  | .ref a => match O a with
    | some (.lst ds) => Q (.lst ds) (delO O a)
    | _ => False
  | _ => False
def fFrz (fe : FE) : FE := fun ρ O Q => fe ρ O fun d O1 => rFrz d O1 Q
theorem de_frz (he : DE M X e fe) : DE M X e (fFrz fe) := peMono he fun σ H Q h => by
  obtain ⟨F, O, P, ρ, R, g, en, q, po⟩ := h
  refine ⟨F, O, P, ρ, _, g, en, q, fun d O1 F1 H1 v q1 s1 g1 r1 => ?_⟩
  unfold rFrz at q1
  split at q1 <;> first | exact q1.elim | skip
  rename_i a
  split at q1 <;> first | exact q1.elim | skip
  rename_i ds e
  simp only [Rep] at r1
  subst r1
  obtain ⟨F2, s2, g2, r2⟩ := g1.freeze e
  exact po _ _ F2 H1 _ q1 (s1.trans s2) g2 r2
theorem ap_fFrz (fe : FE) {ρ : DEnv} {O : Ow} {Q : VD} : fFrz fe ρ O Q = (fe ρ O fun d O1 => rFrz d O1 Q) := rfl
theorem rFrz_u {p : Addr} {ds : List D} {O : Ow} {Q : VD} (h : O p = none) : rFrz (.ref p) (updO O p (.lst ds)) Q = Q (.lst ds) O := by
  simp only [rFrz, updO_same, delO_updO h]
end
end Kf
/-! Dl16: max(xs), max(xs, default=d) of ints. -/
namespace Kf
open PySem PySem.Spec L2
open PyProof.Rows hiding St
section
variable {prog : Program} {w : World} {A : Around} {Rz : Result → Shared → Prop} {it : Addr} {fp wr : List Addr} {n : Nat} {Pv : Nat → Value → Prop} {Sw : Nat → Heap → Prop}
end
/-- the greatest, or 0 of none -/
def lmx : List Int → Int
  | [] => 0
  | [a] => a
  | a :: b :: r => if lmx (b :: r) > a then lmx (b :: r) else a
section
variable {prog : Program} {w : World} {A : Around} {E : Value → Shared → Prop} {s : Shared}
end
section
variable {X : Cx} {M : MX} {e : Expr} {es : List Expr} {fa : FE} {pos p kpos pos' : Pos}
/-- max(xs, default=i) -/
def rMaxD (i : Int) (x : D) (O : Ow) (Q : VD) : Prop := match deref O x with
  | .lst ds => match asInts ds with
    | some ns => Q (.int (if ns = [] then i else lmx ns)) O
    | none => False
  | _ => False
def fMaxD (i : Int) (fa : FE) : FE := fun ρ O Q => fa ρ O fun x O1 => rMaxD i x O1 Q
/-- max(xs) -/
def rMaxL : RAD := fun ds O Q => match ds with
  | [x] => match deref O x with
    | .lst ds => match asInts ds with
      | some ns => ns ≠ [] ∧ Q (.int (lmx ns)) O
      | none => False
    | _ => False
  | _ => False
theorem ap_fMaxD (i : Int) (fa : FE) {ρ : DEnv} {O : Ow} {Q : VD} : fMaxD i fa ρ O Q = fa ρ O fun x O1 => rMaxD i x O1 Q := rfl
theorem rMaxD_l {i : Int} {ns : List Int} {O : Ow} {Q : VD} : rMaxD i (.lst (ns.map .int)) O Q = Q (.int (if ns = [] then i else lmx ns)) O := by
  simp only [rMaxD, deref, asInts_map]
theorem rMaxL_l {ns : List Int} {O : Ow} {Q : VD} : rMaxL [.lst (ns.map .int)] O Q = (ns ≠ [] ∧ Q (.int (lmx ns)) O) := by
  simp only [rMaxL, deref, asInts_map]
end
end Kf
/-! Dl17: defs with one default, None; walks along a list, owned or not. -/
namespace Kf
open PySem PySem.Spec L2
open PyProof.Rows hiding St
/-- a def of the text with one default, None -/
structure FnD (K : PySem.W.Frag) (mg : Str → Option Value) (x : Str) (st : Stmt) (ps : List Str) (f : Addr) (fd : FuncData) : Prop where
  F : FunD K x x (defArgs st) (defBody st) (defScope st) [V.non] [] f fd
  m : mg x = some (.ref f)
  b : Binds K fd ps []
  b1 : ∃ ds, Vals [V.non] ds ∧ Binds K fd ps ds
section
variable {X : Cx} {M : MX} {RX : XW} {W : WX} {e : Expr} {es : List Expr} {fr : FA} {k : Nat} {f : Addr} {fd : FuncData} {ps : List Str} {dsp : DSp} {x : Str} {st : Stmt} {p pos : Pos}
/-- a call without the last argument -/
def fCallXD (dsp : DSp) (RX : XW) (fr : FA) : FE := fun ρ O Q => fr ρ O fun ds O1 => dsp (ds ++ [.non]) O1 Q fun cls fs O' => RX cls fs ρ O'
theorem ap_fCallXD (dsp : DSp) (RX : XW) (fr : FA) {ρ : DEnv} {O : Ow} {Q : VD} : fCallXD dsp RX fr ρ O Q = fr ρ O fun ds O1 => dsp (ds ++ [.non]) O1 Q fun cls fs O' => RX cls fs ρ O' := rfl
end
section
variable {P : Program} {w : World} {K : PySem.W.Frag} {mg : Str → Option Value} {base : Heap}
end
/-! ### for over a list, owned or not, that stays -/
section
variable {X : Cx} {M : MX} {l tg : Expr} {fl : FE} {pos : Pos}
def forE (x : D) (all : List D) (p : Pat) (gb : GS) (R : DEnds) : List D → DEnv → Ow → Prop
  | [], ρ, O => deref O x = .lst all ∧ R.nx ρ O
  | d :: ds, ρ, O => deref O x = .lst all ∧ patGet (patD p d ρ) fun ρ1 => gb { R with nx := forE x all p gb R ds, ct := forE x all p gb R ds, bk := R.nx } ρ1 O
def asLE (x : D) (O : Ow) (Q : List D → Prop) : Prop := match deref O x with
  | .lst ds => Q ds
  | _ => False
def gForE (fl : FE) (p : Pat) (gb : GS) : GS := fun R ρ O => fl ρ O fun x O1 => asLE x O1 fun ds => forE x ds p gb R ds ρ O1
theorem ap_gForE (fl : FE) (p : Pat) (gb : GS) {R : DEnds} {ρ : DEnv} {O : Ow} : gForE fl p gb R ρ O = fl ρ O fun x O1 => asLE x O1 fun ds => forE x ds p gb R ds ρ O1 := rfl
theorem asLE_l {ds : List D} {O : Ow} {Q : List D → Prop} : asLE (.lst ds) O Q = Q ds := rfl
end
end Kf
/-! Dl18: walks along the keys of an owned dict. -/
namespace Kf
open PySem PySem.Spec L2
open PyProof.Rows hiding St
variable {M : MX}
/-! ### [.. for k in d] -/
def lcK (a : Addr) (c : Cell) (p : Pat) (ft : FT) (fe : FE) (ρ : DEnv) : List D → List D → Ow → (List D → Ow → Prop) → Prop
  | [], acc, O, Q => O a = some c ∧ Q acc O
  | d :: ds, acc, O, Q => O a = some c ∧ patGet (patD p d ρ) fun ρ1 => ft ρ1 O fun b O1 => if b = true then fe ρ1 O1 fun e O2 => acc.length < sizeLine ∧ lcK a c p ft fe ρ ds (acc ++ [e]) O2 Q else lcK a c p ft fe ρ ds acc O1 Q
def asDc (o : Option (Option D)) (O : Ow) (N : Addr → List (Key × D) → Prop) : Prop := match o with
  | some (some (.ref a)) => match O a with
    | some (.dic kvs) => N a kvs
    | _ => False
  | _ => False
def keysD (kvs : List (Key × D)) : List D := kvs.map fun kv => keyD kv.1
def fLcK (i : Nat) (p : Pat) (ft : FT) (fe : FE) (vs : List Nat) : FE := fun ρ O Q => asDc ρ[i]? O fun a kvs =>
  ∀ o, lcK a (.dicL kvs o) p ft fe (wipeD ρ vs) (keysD kvs) [] (updO O a (.dicL kvs o)) fun acc O2 => Q (.lst acc) (updO O2 a (.dic kvs))
theorem asDc_of {o : Option (Option D)} {O : Ow} {N : Addr → List (Key × D) → Prop} (q : asDc o O N) : ∃ a kvs, o = some (some (.ref a)) ∧ O a = some (.dic kvs) ∧ N a kvs := by
  unfold asDc at q
  split at q <;> first | exact q.elim | skip
  rename_i a
  split at q <;> first | exact q.elim | skip
  rename_i kvs e
  exact ⟨a, kvs, rfl, e, q⟩
theorem keys_rep {K : PySem.W.Frag} {F : Hp} {kvs : List (Key × D)} {vs : List (Key × V)} (h : KvOk K F kvs vs) {i : Nat} {k : Key} {v : V} (e : vs[i]? = some (k, v)) : (keysD kvs)[i]? = some (keyD k) := by
  have := h.keys
  have e2 : (vs.map (·.1))[i]? = some k := by rw [List.getElem?_map, e]; rfl
  rw [this, List.getElem?_map] at e2
  unfold keysD
  rw [List.getElem?_map]
  cases hk : kvs[i]? with
  | none => rw [hk] at e2; cases e2
  | some kv => rw [hk] at e2; cases e2; rfl
section
variable {X : Cx} {elt tg iter : Expr} {ifs : List Expr} {scope : Scope} {own : List (Str × Nat)} {pos : Pos} {p : Pat} {ft : FT} {fe : FE}
theorem fLcK_lift {vs : List Nat} {K : PySem.W.Frag} {i0 : Nat} (hv : ∀ i ∈ patI p, i ∈ vs) : ∀ σ H Q, liftE M K (fLcK i0 p ft fe vs) σ H Q → tLockE (tLc (iKeys (liftE M K (fVar i0))) (patT K p) (liftT M K ft) (liftE M K fe) vs) σ H Q := fun σ H Q h => by
  obtain ⟨F, O, P, ρ, R, g, en, q, po⟩ := h
  obtain ⟨a, kvs, e0, e, q⟩ := asDc_of q
  obtain ⟨hF, hP, ws, hH, hkv⟩ := g.ow a _ e
  refine ⟨a, .dK ws, hH, trivial, fun od => ?_⟩
  have q := q (.frz od (.dK ws))
  generalize hc : Cell.dicL kvs (.frz od (.dK ws)) = c at q
  have g0 : Gd M K F (updO O a c) P (upd H a (.frz od (.dK ws))) := g.setO e (by rw [← hc]; exact ⟨upd_same, od, ws, rfl, hkv⟩)
  refine ⟨F, updO O a c, P, ρ, fun d O' => d = .ref a ∧ O' = updO O a c, g0, en, by unfold fVar; rw [e0]; exact ⟨rfl, rfl⟩, fun x O1 F1 H1 v q1 s1 g1 r1 => ?_⟩
  obtain ⟨rfl, rfl⟩ := q1
  simp only [Rep] at r1
  subst r1
  have cellH : ∀ {F2 O2 P2 H2}, Gd M K F2 O2 P2 H2 → O2 a = some c → H2 a = some (.frz od (.dK ws)) := fun {F2 O2 P2 H2} g2 e2 => by
    have := (g2.ow a c e2).2.2
    rw [← hc] at this
    exact this.1
  refine ⟨a, od, rfl, .inl ⟨ws, cellH g1 updO_same, fun D hD => ?_⟩⟩
  have hPD := g1.freeP hD
  have hlen : ws.length = (keysD kvs).length := by unfold keysD; rw [List.length_map]; exact (Paired.length hkv).symm
  refine ⟨fun i m H => ∃ F2 O2 acc vacc, i + m = (keysD kvs).length ∧ Same F1 F2 ∧ Gd M K F2 O2 (upd P D (.lst vacc)) H ∧ RepAll K F2 acc vacc ∧ lcK a c p ft fe (wipeD ρ vs) ((keysD kvs).drop i) acc O2 fun acc O2 => R (.lst acc) (updO O2 a (.dic kvs)),
    ⟨(keysD kvs).length, F1, updO O a c, [], [], by omega, Same.refl _, g1.aside hD, .nil, by rw [List.drop_zero]; exact q⟩, fun i m H2 hW => ?_⟩
  obtain ⟨F2, O2, acc, vacc, hm, s2, g2, ra, q2⟩ := hW
  by_cases hi : i < (keysD kvs).length
  · rw [List.drop_eq_getElem_cons hi] at q2
    unfold lcK at q2
    obtain ⟨e2, q2⟩ := q2
    refine .inr ⟨⟨cellH g2 e2, by omega⟩, fun H' => ∃ F3 O3 acc vacc, Same F1 F3 ∧ Gd M K F3 O3 (upd P D (.lst vacc)) H' ∧ RepAll K F3 acc vacc ∧ lcK a c p ft fe (wipeD ρ vs) ((keysD kvs).drop (i + 1)) acc O3 fun acc O2 => R (.lst acc) (updO O2 a (.dic kvs)), fun H' hN => ?_, fun x H' hyy => ?_⟩
    · obtain ⟨F3, O3, acc3, vacc3, s3, g3, r3, q3⟩ := hN
      exact ⟨m - 1, by omega, F3, O3, acc3, vacc3, by omega, s3, g3, r3, q3⟩
    · obtain ⟨rfl, k, v, e3, rfl⟩ := hyy
      have e4 := keys_rep hkv e3
      rw [List.getElem?_eq_getElem hi] at e4
      cases e1 : patD p (keysD kvs)[i] (wipeD ρ vs) with
      | none => rw [e1] at q2; exact q2.elim
      | some ρ3 =>
        rw [e1] at q2
        refine pat_ok g2 p (keysD kvs)[i] _ (wipeD ρ vs) ρ3 (wipe σ vs) _ e1 (by rw [Option.some.inj e4]; exact keyD_rep k) ((en.mono (s1.trans s2)).wipes vs) fun σ4 en4 off => ?_
        refine ⟨wipe_off off hv, F2, O2, upd P D (.lst vacc), ρ3, _, g2, en4, q2, fun b O5 F5 H5 q5 s5 g5 => ?_⟩
        cases b with
        | true =>
          rw [if_pos rfl] at q5 ⊢
          refine ⟨F5, O5, upd P D (.lst vacc), ρ3, _, g5, en4.mono s5, q5, fun y O6 F6 H6 w q6 s6 g6 r6 => ?_⟩
          refine ⟨vacc, (g6.as D _ upd_same).2, by rw [← ra.length]; exact q6.1, F6, O6, acc ++ [y], vacc ++ [w], s2.trans (s5.trans s6), g6.asideSet (M.mono g1.rl (s2.trans (s5.trans s6)) (same_upd hPD)), (ra.mono (s5.trans s6)).append (.one r6), q6.2⟩
        | false =>
          rw [if_neg Bool.false_ne_true] at q5 ⊢
          exact ⟨F5, O5, acc, vacc, s2.trans s5, g5, ra.mono s5, q5⟩
  · rw [List.drop_eq_nil_of_le (by omega)] at q2
    unfold lcK at q2
    obtain ⟨e2, q2⟩ := q2
    refine .inl ⟨⟨cellH g2 e2, by omega⟩, cellH g2 e2, ?_⟩
    have g3 : Gd M K F2 (updO O2 a (.dic kvs)) (upd P D (.lst vacc)) (upd H2 a (.dK ws)) := g2.setO e2 ⟨ws, upd_same, hkv.mono (s1.trans s2)⟩
    obtain ⟨s4, g4⟩ := g3.asideFz hPD (M.mono g1.rl s2 (Same.refl _))
    refine po (.lst acc) _ _ _ _ q2 ((s1.trans s2).trans s4) g4 ?_
    simp only [Rep]
    exact ⟨D, vacc, rfl, upd_same, ra.mono s4⟩
theorem de_lcK {i0 : Nat} {vs : List Nat} (hc : X.calm = true) (hN : X.N.Nodup) (hi : DE M X iter (fVar i0)) (ok : BlkOk X.N X.env.scope scope own)
    (hg : ∀ (s : Shared) (H : Hp) (C : Addr) (cl : List (Str × Addr)) (fp : List Addr), DP (X.blk s H scope (compEnvC scope cl C X.env) fp) tg p) (ht : ∀ (s : Shared) (H : Hp) (C : Addr) (cl : List (Str × Addr)) (fp : List Addr), PTs (X.blk s H scope (compEnvC scope cl C X.env) fp) ifs (liftT M X.K ft))
    (he : ∀ (s : Shared) (H : Hp) (C : Addr) (cl : List (Str × Addr)) (fp : List Addr), DE M (X.blk s H scope (compEnvC scope cl C X.env) fp) elt fe) (hvs : own.map (·.2) = vs := by rfl) (hv : ((patI p).all fun i => vs.contains i) = true := by decide) (hs : ∀ x, foldedSetIterable iter X.env x = pure x := by intro _; rfl) :
    DE M X (.ListComp elt [⟨tg, iter, ifs, 0⟩] scope pos) (fLcK i0 p ft fe vs) := by
  subst hvs
  exact peMono (pe_lock (pe_lc (te := liftE M X.K fe) (g := patT X.K p) hc hN (pi_keys hi) ok hg ht he hs)) (fLcK_lift (pat_in hv))
end
theorem ap_fLcK (i : Nat) (p : Pat) (ft : FT) (fe : FE) (vs : List Nat) {ρ : DEnv} {O : Ow} {Q : VD} : fLcK i p ft fe vs ρ O Q = asDc ρ[i]? O fun a kvs =>
  ∀ o, lcK a (.dicL kvs o) p ft fe (wipeD ρ vs) (keysD kvs) [] (updO O a (.dicL kvs o)) fun acc O2 => Q (.lst acc) (updO O2 a (.dic kvs)) := rfl
theorem asDc_r {a : Addr} {kvs : List (Key × D)} {O : Ow} {N : Addr → List (Key × D) → Prop} (h : O a = some (.dic kvs)) : asDc (some (some (.ref a))) O N = N a kvs := by simp only [asDc, h]
/-- [.. for k in d], nothing owned changed -/
theorem lcK_map {α : Type} {a : Addr} {c : Cell} {p : Pat} {fe : FE} {ρ : DEnv} {O : Ow} (hO : O a = some c) (f g : α → D) : ∀ (xs : List α) (acc : List D) (Q : List D → Ow → Prop), acc.length + xs.length ≤ sizeLine →
    (∀ x ∈ xs, ∀ Q' : VD, Q' (g x) O → patGet (patD p (f x) ρ) fun ρ1 => fe ρ1 O Q') → Q (acc ++ xs.map g) O → lcK a c p fYes fe ρ (xs.map f) acc O Q
  | [], acc, Q, _, _, q => ⟨hO, by simpa using q⟩
  | x :: xs, acc, Q, hl, hs, q => by
    rw [List.length_cons] at hl
    have z := hs x List.mem_cons_self (fun e O2 => acc.length < sizeLine ∧ lcK a c p fYes fe ρ (xs.map f) (acc ++ [e]) O2 Q) ⟨by omega, lcK_map hO f g xs _ Q (by rw [List.length_append, List.length_singleton]; omega) (fun d' hd => hs d' (List.mem_cons_of_mem _ hd)) (by simpa using q)⟩
    rw [List.map_cons]
    unfold lcK
    refine ⟨hO, ?_⟩
    simpa [fYes] using z
/-! ### for k in d -/
def endsK (a : Addr) (c : Cell) (kvs : List (Key × D)) (R : DEnds) (N : DEnv → Ow → Prop) : DEnds :=
  { nx := N, ct := N, bk := fun ρ O => O a = some c ∧ R.nx ρ (updO O a (.dic kvs)), rt := fun d O => O a = some c ∧ R.rt d (updO O a (.dic kvs)) }
def forK (a : Addr) (c : Cell) (kvs : List (Key × D)) (p : Pat) (gb : GS) (R : DEnds) : List D → DEnv → Ow → Prop
  | [], ρ, O => O a = some c ∧ R.nx ρ (updO O a (.dic kvs))
  | d :: ds, ρ, O => O a = some c ∧ patGet (patD p d ρ) fun ρ1 => gb (endsK a c kvs R (forK a c kvs p gb R ds)) ρ1 O
def gForK (i : Nat) (p : Pat) (gb : GS) : GS := fun R ρ O => asDc ρ[i]? O fun a kvs => ∀ o, forK a (.dicL kvs o) kvs p gb R (keysD kvs) ρ (updO O a (.dicL kvs o))
theorem ap_gForK (i : Nat) (p : Pat) (gb : GS) {R : DEnds} {ρ : DEnv} {O : Ow} : gForK i p gb R ρ O = asDc ρ[i]? O fun a kvs => ∀ o, forK a (.dicL kvs o) kvs p gb R (keysD kvs) ρ (updO O a (.dicL kvs o)) := rfl
section
variable {X : Cx} {tg iter : Expr} {pos : Pos}
end
end Kf
/-! Dl19: dict(pairs). -/
namespace Kf
open PySem PySem.Spec L2
open PyProof.Rows hiding St
variable {M : MX}
section
variable {X : Cx}
end
/-! ### xs or ys, of lists -/
section
variable {X : Cx} {a b : Expr} {fa fb : FE} {rest : List Expr} {pos : Pos}
def rOrL (x : D) (O : Ow) (N : List D → Prop) : Prop := match deref O x with
  | .lst ds => N ds
  | _ => False
def fOrL (fa fb : FE) : FE := fun ρ O Q => fa ρ O fun x O1 => rOrL x O1 fun ds => if ds.isEmpty = true then fb ρ O1 Q else Q x O1
theorem de_orL (ha : DE M X a fa) (hb : DE M X (.BoolOp .Or (b :: rest) pos) fb) : DE M X (.BoolOp .Or (a :: b :: rest) pos) (fOrL fa fb) := by
  refine peMono (pe_orT ha hb) fun σ H Q h => ?_
  obtain ⟨F, O, P, ρ, R, g, en, q, po⟩ := h
  refine ⟨F, O, P, ρ, _, g, en, q, fun x O1 F1 H1 v q1 s1 g1 r1 => ?_⟩
  unfold rOrL at q1
  have rd := g1.deref r1
  split at q1 <;> first | exact q1.elim | skip
  rename_i ds e
  rw [e] at rd
  obtain ⟨c, ws, rfl, hH, hr⟩ := (show ∃ c ws, v = .ref c ∧ H1 c = some (.lst ws) ∧ RepAll X.K F1 ds ws from rd)
  have hl := hr.length
  refine ⟨!ws.isEmpty, ?_, ?_⟩
  · exact .inl ⟨ws, SqL.of hH, rfl⟩
  · have e2 : ds.isEmpty = ws.isEmpty := by cases ds <;> cases ws <;> simp at hl ⊢
    rw [e2] at q1
    cases hw : ws.isEmpty with
    | true =>
      rw [hw, if_pos rfl] at q1
      rw [if_neg (by simp)]
      exact ⟨F1, O1, P, ρ, R, g1, en.mono s1, q1, po.more s1⟩
    | false =>
      rw [hw, if_neg (by simp)] at q1
      rw [if_pos (by simp)]
      exact po x O1 F1 H1 _ q1 s1 g1 r1
end
theorem ap_fOrL (fa fb : FE) {ρ : DEnv} {O : Ow} {Q : VD} : fOrL fa fb ρ O Q = fa ρ O fun x O1 => rOrL x O1 fun ds => if ds.isEmpty = true then fb ρ O1 Q else Q x O1 := rfl
theorem rOrL_l {ds : List D} {O : Ow} {N : List D → Prop} : rOrL (.lst ds) O N = N ds := rfl
end Kf
/-! Dl20: tables of the module, unpacking of lists, ranges with a step. -/
namespace Kf
open PySem PySem.Spec L2
open PyProof.Rows hiding St
variable {M : MX}
/-! ### a table of texts by texts, of the module -/
def CDic (K : PySem.W.Frag) (w : World) (mg : Str → Option Value) (x : Str) (tab : List (Str × Str)) : Prop :=
  ∃ d es n, mg x = some (.ref d) ∧ KDict K w d es n ∧ Paired (fun (e : DictEntry) (q : Str × Str) => (∃ t, e.key = .str q.1 t) ∧ ∃ t, e.val = .str q.2 t) es.toList tab
def tabF (tab : List (Str × Str)) (z : Str) : Option Str := (tab.find? fun q => decide (q.1 = z)).map (·.2)
theorem find_tab {es : List DictEntry} {tab : List (Str × Str)} (h : Paired (fun (e : DictEntry) (q : Str × Str) => (∃ t, e.key = .str q.1 t) ∧ ∃ t, e.val = .str q.2 t) es tab) (z : Str) :
    (tabF tab z = none ∧ (es.find? fun e => Value.isStrOf z e.key).map (·.val) = none) ∨ ∃ y t, tabF tab z = some y ∧ (es.find? fun e => Value.isStrOf z e.key).map (·.val) = some (.str y t) := by
  induction h with
  | nil => exact .inl ⟨rfl, rfl⟩
  | @cons e q es qs a _ ih =>
    obtain ⟨⟨t, ek⟩, t2, ev⟩ := a
    have hs : Value.isStrOf z e.key = decide (q.1 = z) := by
      rw [ek]
      show (q.1 == z) = _
      exact str_beq ..
    unfold tabF at ih ⊢
    rw [List.find?_cons, List.find?_cons, hs]
    by_cases c : q.1 = z
    · rw [decide_eq_true c]
      exact .inr ⟨q.2, t2, rfl, by simp [ev]⟩
    · rw [decide_eq_false c]
      exact ih
section
variable {X : Cx} {x : Str} {tab : List (Str × Str)} {e i a : Expr} {fe fi fa : FE} {pos pos' apos cpos p2 : Pos}
theorem CDic.map {d : Addr} {es : Array DictEntry} {n : Nat} (D : KDict X.K X.w d es n) (hp : Paired (fun (e : DictEntry) (q : Str × Str) => (∃ t, e.key = .str q.1 t) ∧ ∃ t, e.val = .str q.2 t) es.toList tab) (z : Str) :
    (tabF tab z = none ∧ findBy Value.isStrOf es z = none) ∨ ∃ y t, tabF tab z = some y ∧ findBy Value.isStrOf es z = some (.str y t) := by
  have h := find_tab hp z
  obtain ⟨l⟩ := es
  unfold findBy
  rw [List.find?_toArray]
  exact h
def tabD (tab : List (Str × Str)) (z : Str) : D := match tabF tab z with
  | some y => .str y
  | none => .non
def asStr (d : D) (N : Str → Prop) : Prop := match d with
  | .str z => N z
  | _ => False
/-- T.get(w) -/
def fKGet (tab : List (Str × Str)) (fe : FE) : FE := fun ρ O Q => fe ρ O fun d O1 => asStr d fun z => Q (tabD tab z) O1
theorem ap_fKGet (tab : List (Str × Str)) (fe : FE) {ρ : DEnv} {O : Ow} {Q : VD} : fKGet tab fe ρ O Q = fe ρ O fun d O1 => asStr d fun z => Q (tabD tab z) O1 := rfl
theorem asStr_s {z : Str} {N : Str → Prop} : asStr (.str z) N = N z := rfl
/-- w in T -/
def fKIn (tab : List (Str × Str)) (fa : FE) : FE := fun ρ O Q => fa ρ O fun d O1 => asStr d fun z => Q (.bl (tabF tab z).isSome) O1
theorem ap_fKIn (tab : List (Str × Str)) (fa : FE) {ρ : DEnv} {O : Ow} {Q : VD} : fKIn tab fa ρ O Q = fa ρ O fun d O1 => asStr d fun z => Q (.bl (tabF tab z).isSome) O1 := rfl
/-- T[w] -/
def asSome (o : Option Str) (N : Str → Prop) : Prop := match o with
  | some y => N y
  | none => False
def fKIx (tab : List (Str × Str)) (fi : FE) : FE := fun ρ O Q => fi ρ O fun d O1 => asStr d fun z => asSome (tabF tab z) fun y => Q (.str y) O1
theorem ap_fKIx (tab : List (Str × Str)) (fi : FE) {ρ : DEnv} {O : Ow} {Q : VD} : fKIx tab fi ρ O Q = fi ρ O fun d O1 => asStr d fun z => asSome (tabF tab z) fun y => Q (.str y) O1 := rfl
end
/-! ### (a, b, ..) = a list -/
section
variable {X : Cx} {e : Expr} {es : List Expr} {fe : FE} {pos p2 : Pos}
def rUnl (d : D) (O : Ow) (N : List D → Prop) : Prop := match deref O d with
  | .lst ds => N ds
  | _ => False
def gAsgL (fe : FE) (ps : List Pat) : GS := fun R ρ O => fe ρ O fun d O1 => rUnl d O1 fun ds => patGet (patDs ps ds ρ) fun ρ' => R.nx ρ' O1
theorem ap_gAsgL (fe : FE) (ps : List Pat) {R : DEnds} {ρ : DEnv} {O : Ow} : gAsgL fe ps R ρ O = fe ρ O fun d O1 => rUnl d O1 fun ds => patGet (patDs ps ds ρ) fun ρ' => R.nx ρ' O1 := rfl
theorem rUnl_l {ds : List D} {O : Ow} {N : List D → Prop} : rUnl (.lst ds) O N = N ds := rfl
end
/-! ### range(i, j, c) -/
section
variable {X : Cx} {tg a b c : Expr} {fr : FA} {p pos : Pos}
def rangeC (lo c : Int) (n : Nat) : List D := (List.range n).map fun i => .int (lo + (i : Nat) * c)
def asR3 (ds : List D) (O : Ow) (Q : List D → Ow → Prop) : Prop := match ds with
  | [.int i, .int j, .int c] => ∃ n, RgC i j c n ∧ Q (rangeC i c n) O
  | _ => False
def fiRng3 (fr : FA) : FI := fun ρ O Q => fr ρ O fun ds O1 => asR3 ds O1 Q
theorem ap_fiRng3 (fr : FA) {ρ : DEnv} {O : Ow} {Q : List D → Ow → Prop} : fiRng3 fr ρ O Q = fr ρ O fun ds O1 => asR3 ds O1 Q := rfl
theorem asR3_i {i j c : Int} {O : Ow} {Q : List D → Ow → Prop} : asR3 [.int i, .int j, .int c] O Q = ∃ n, RgC i j c n ∧ Q (rangeC i c n) O := rfl
end
/-! ### a text split, the list changes -/
section
variable {X : Cx}
def rSplitO : RMD := fun x ds O Q => match x, ds with
  | .str a, [.str b] => (b.length == 0) = false ∧ a.length + 2 ≤ sizeLine ∧ ∀ p, O p = none → Q (.ref p) (updO O p (.lst ((Txt.split a b).map .str)))
  | _, _ => False
theorem rSplitO_s {a b : Str} {O : Ow} {Q : VD} : rSplitO (.str a) [.str b] O Q = ((b.length == 0) = false ∧ a.length + 2 ≤ sizeLine ∧ ∀ p, O p = none → Q (.ref p) (updO O p (.lst ((Txt.split a b).map .str)))) := rfl
end
end Kf
/-! Dl21: enumerate(tuple). -/
namespace PySem
open Sem (wp)
open AutoSeq1 (wpAny_loadPart')
theorem meets_enumT (l : Addr) (items : Array Value) (n : Nat) (dct : Option Addr) (sl : Array (Option Value)) :
    Meets (Builtin.«enumerate.__new__» ⟨[.type "enumerate", .ref l], []⟩) (fun _ R s => s.heap.get? l = some { cls := .type "tuple", dict := dct, data := .seq items n, slots := sl } ∧
      R (.ok (.ret (.ref (s.heap.push { cls := .type "tuple_iterator", data := .fields #[.ref l, .int 0 0] }).objs.size)))
        { s with heap := (s.heap.push { cls := .type "tuple_iterator", data := .fields #[.ref l, .int 0 0] }).push { cls := .type "enumerate", data := .fields #[.none, .bool false, .ref s.heap.objs.size, rawInt 0, .none, .none] } }) :=
  .of_wp fun prog w A R s h => by
    obtain ⟨hp, g, d, tk, os⟩ := s; obtain ⟨hl, h⟩ := h
    have hsub := sub_enumerate
    have hL : Heap.IsTuple (Shared.heap ⟨hp, g, d, tk, os⟩) l items := ⟨_, hl, rfl, n, rfl⟩
    wp_walk using wpAny_loadPart' hl
    refine wpAny_stack_any fun st => wpAny_pure ?_
    split
    · rename_i c _ _ _ _ _
      cases (c == Value.type "enumerate")
      · wp_walk using wpAny_loadPart' hl, wpAny_pyIter_tuple hL
        exact ⟨_, rfl, h⟩
      · wp_walk using wpAny_loadPart' hl, wpAny_pyIter_tuple hL
        exact ⟨_, rfl, h⟩
    · wp_walk using wpAny_loadPart' hl, wpAny_pyIter_tuple hL
      exact ⟨_, rfl, h⟩
theorem call_enumT {prog : Program} {w : World} {A : Around} {E : Value → Shared → Prop} {s : Shared} {l : Addr} {items : Array Value} {Q : Value → Shared → Prop} (hL : s.heap.IsTuple l items)
    (h : ∀ h', IsEnum h' (s.heap.objs.size + 1) s.heap.objs.size 0 .none → h'.IsTupleIter s.heap.objs.size l 0 → h'.objs.size = s.heap.objs.size + 2 →
      (∀ b o, s.heap.get? b = some o → h'.get? b = some o) → Q (.ref (s.heap.objs.size + 1)) { s with heap := h' }) :
    wpAny (model prog w) A (call (.type "enumerate") [.ref l]) Q E s := by
  obtain ⟨⟨c, dct, dt, sl⟩, hl, hc, n, hd⟩ := hL
  replace hc : c = .type "tuple" := hc
  replace hd : dt = .seq items n := hd
  subst hc hd
  refine callType_new F.called_enumerate (by decide) (F.typeCall_enumerate_1 _) (F.newCall_enumerate_1 _) (fun obj => F.args_object_init_2 obj _) F.entry_enumerate_new
    (meets_enumT l items n dct sl) ⟨hl, ?_⟩
  have hz : (s.heap.push { cls := .type "tuple_iterator", data := .fields #[.ref l, .int 0 0] }).objs.size = s.heap.objs.size + 1 := Heap.size_push ..
  show _ ∧ _
  rw [hz]
  have he : IsEnum ((s.heap.push { cls := .type "tuple_iterator", data := .fields #[.ref l, .int 0 0] }).push
      { cls := .type "enumerate", data := .fields #[.none, .bool false, .ref s.heap.objs.size, rawInt 0, .none, .none] }) (s.heap.objs.size + 1) s.heap.objs.size 0 .none := by
    have := Heap.get?_push_size (s.heap.push { cls := .type "tuple_iterator", data := .fields #[.ref l, .int 0 0] })
      (o := { cls := .type "enumerate", data := .fields #[.none, .bool false, .ref s.heap.objs.size, rawInt 0, .none, .none] }) rfl
    rw [hz] at this; exact this
  refine ⟨⟨_, he, rfl⟩, h _ he ⟨_, Heap.get?_push_of_some _ (Heap.get?_push_size _ rfl), rfl, rfl⟩ (by rw [Heap.size_push, hz]) fun b o x => Heap.get?_push_of_some _ (Heap.get?_push_of_some _ x)⟩
theorem enumT_end {prog : Program} {w : World} {A : Around} {E : Value → Shared → Prop} {s : Shared} {e it a : Addr} {i : Nat} {c : Int} {items : Array Value} {old : Value} {Q : Option Value → Shared → Prop} (hh : A.handled = none) (he : IsEnum s.heap e it c old)
    (hit : s.heap.IsTupleIter it a i) (hT : s.heap.IsTuple a items) (hx : items[i]? = none) (hQ : ∀ h', Heap.ExtBut it s.heap h' → Q none { s with heap := h' }) : wpAny (model prog w) A (pyNext (.ref e)) Q E s := by
  have hE : s.TypeIs (.ref e) "enumerate" := ⟨_, he, rfl⟩
  unfold pyNext
  refine wpAny_bind (wpAny_attempt (wpAny_callSpecial?_slot (name := Str.ofString "__next__") hE F.slot_enumerate_next
    (wpAny_call_entry F.slot_enumerate_next hE F.entry_enumerate_next ?_ (F.args_enumerate_next_1 _))))
  show wpAny _ _ (field (.ref e) 2 >>= _) _ _ _
  refine wpAny_bind (wpAny_field he rfl (x := .ref it) rfl ?_)
  refine wpAny_bind (wpAny_nextOf_tuple_end (A := A.in1) hh hit hT hx fun h' x he' hx' => ?_)
  obtain ⟨o, ho, hc⟩ := hx'
  refine wpAny_bind (wpAny_isInstance (T := "StopIteration") (b := true) ⟨o, ho, hc⟩ isSubtype_stop ?_)
  exact wpAny_pure (hQ _ he')
end PySem
namespace Kf
open PySem PySem.Spec L2
open PyProof.Rows hiding St
/-- a tuple that stays, each item in a new pair -/
def IteT (K : PySem.W.Frag) (a : Addr) : It :=
  ⟨fun i H => ∃ (xs : List V) (x : V), SqT K H a xs ∧ xs[i]? = some x, fun i H v H' => ∃ T x, v = .ref T ∧ H T = none ∧ H' = upd H T (.tup [.int (i : Nat), x]) ∧ ∀ xs, SqT K H a xs → xs[i]? = some x, fun i H => ∃ xs : List V, SqT K H a xs ∧ xs.length ≤ i⟩
theorem turn_enumT {P : Program} {w : World} {K : PySem.W.Frag} {elts : List Expr} {kk : Nat} {tpos : Pos} (a e it : Addr) :
    Turn P w K (.Tuple elts kk tpos) (IteT K a) [e, it] e (fun i h => (∃ old, IsEnum h e it ((i : Nat) : Int) old) ∧ h.IsTupleIter it a i ∧ e ≠ it) where
  mem := by simp
  obj := fun i h st b hb => by
    obtain ⟨⟨old, he⟩, ⟨o, ho, hc, hd⟩, _⟩ := st
    have e' : b = e ∨ b = it := by simpa using hb
    rcases e' with z | z
    · rw [z]; exact ⟨_, he, fun v q => nomatch q⟩
    · rw [z]; exact ⟨o, ho, fun v q => by rw [hd] at q; cases q⟩
  keep := fun i h h' st k => let ⟨⟨old, he⟩, hi, hne⟩ := st; ⟨⟨old, k e (by simp) _ he⟩, hi.at fun o q => k it (by simp) o q, hne⟩
  item := by
    intro X hP hw hK hc i pins s σ H E I hf st hg
    subst hP hw hK
    obtain ⟨⟨old, he⟩, hit, hne⟩ := st
    obtain ⟨xs, x, hq, hx⟩ := hg
    obtain ⟨its, rv, p, hz⟩ := I.tuple hq
    obtain ⟨u, hu, ru⟩ := rv.get hx
    have hel : e < s.heap.objs.size := Heap.lt_size he
    have hil : it < s.heap.objs.size := by obtain ⟨_, q, _⟩ := hit; exact Heap.lt_size q
    have hT : s.heap.IsTuple a its.toArray := p
    have hai : a ≠ it := fun z => by
      obtain ⟨o1, e1, c1, _⟩ := hT
      obtain ⟨o2, e2, c2, _⟩ := hit
      rw [z, e2] at e1
      cases e1
      rw [c1] at c2
      exact absurd c2 (by decide)
    have hae : e ≠ a := fun z => by
      obtain ⟨o1, e1, c1, _⟩ := hT
      have he' : s.heap.get? e = _ := he
      rw [z, e1] at he'
      cases he'
      exact absurd (show Value.type "enumerate" = Value.type "tuple" from c1) (by decide)
    have hi : i < its.toArray.size := by
      have := (List.getElem?_eq_some_iff.mp hu).1
      simpa using this
    refine wpAny_pyNext_enum_itemD (Draws.tuple (A := X.A.in1) (I.ok.hd hc) it a hai its.toArray) he ⟨hit, hT⟩ hi hne (by simp [hne, hae]) fun x' h' tk hP ho hit' hT' hsz hk => ?_
    have ex : x' = u := by
      rw [show its.toArray[i]? = its[i]? by simp, hu] at hP
      exact (Option.some.inj hP).symm
    subst ex
    refine ⟨_, rfl, wpAny_letOwnedTupleGo_enum (s := { s with heap := h', toks := tk + 1 }) ho fun h'' he' sb => ?_⟩
    have hT2 : h''.get? s.heap.objs.size = some { cls := .type "tuple", data := .seq #[.int i tk, x'] } := (sb.2 _ (Nat.ne_of_gt hel)).trans hT'
    have new : ObjOk X.prog X.w (upd H s.heap.objs.size (.tup [.int (i : Nat), x])) h'' s.heap.objs.size (.tup [.int (i : Nat), x]) :=
      ⟨by show 2 ≤ sizeLine; decide, [.int i tk, x'], .cons ⟨_, rfl⟩ (.cons ru .nil), ⟨_, hT2, rfl, _, rfl⟩⟩
    have I1 : Inv X pins σ (upd H s.heap.objs.size (.tup [.int (i : Nat), x])) { s with heap := h'', toks := tk + 1 } :=
      I.turnedNew (ch := [e, it]) (fun b ob hb q => (sb.2 b (fun z => hb (by simp [z]))).trans (hk b ob (fun z => hb (by simp [z])) (fun z => hb (by simp [z])) q)) hf (Nat.le_refl _) new
    refine ⟨.ref s.heap.objs.size, _, I1, rfl, ⟨_, x, rfl, I.hok.fresh (Nat.le_refl _), rfl, fun ys hy => by rw [I.tuple_inj hy hq]; exact hx⟩, ⟨⟨x', ?_⟩, hit'.1.at fun o q => (sb.2 it (Ne.symm hne)).trans q, hne⟩, fun b hb => ?_⟩
    · have e1 : ((i + 1 : Nat) : Int) = (i : Int) + 1 := by omega
      rw [e1]; exact he'
    · have hb' : b < s.heap.objs.size := by
        have e' : b = e ∨ b = it := by simpa using hb
        rcases e' with z | z
        · rw [z]; exact hel
        · rw [z]; exact hil
      rw [upd_ne (Nat.ne_of_lt hb')]
      exact (hf b hb).1
  done := by
    intro X hP hw hK hc i pins s σ H E I hf st hg
    subst hP hw hK
    obtain ⟨⟨old, he⟩, hit, hne⟩ := st
    obtain ⟨xs, hq, hx⟩ := hg
    obtain ⟨its, rv, p, hz⟩ := I.tuple hq
    obtain ⟨f0, f1, f2, f3, f4, f5⟩ := hf it (by simp)
    have hl := rv.length
    have hT : s.heap.IsTuple a its.toArray := p
    exact enumT_end (I.ok.hd hc) he hit hT (by simp; omega) fun h' eb => ⟨rfl, I.turned (t' := s.toks) (fun b o hb q => eb b o hb q) f0 f1 f3 f4 f5⟩
  self := fun A i s Q E st h => let ⟨⟨_, he⟩, _⟩ := st; wpAny_pyIter_enum he h
def iEnumT (K : PySem.W.Frag) (ta : TA) : TI := fun σ H R => ta σ H fun vs H1 => ∃ a xs, vs = [.ref a] ∧ SqT K H1 a xs ∧ R (IteT K a) H1
theorem pi_enumT {X : Cx} {e : Expr} {ta : TA} {p pos tpos : Pos} {elts : List Expr} {kk : Nat} (hg : Gl X "enumerate") (hm : X.mg "enumerate" = none) (ha : PA X [e] ta) (hs : starEach [e] X.env = [(false, eval e X.env)] := by rfl) :
    PI X (.Tuple elts kk tpos) (.Call (.Name "enumerate" p) [e] [] pos) (iEnumT X.K ta) := by
  refine ⟨fun pins s σ H R I h => ?_⟩
  refine Call_ (ld_blt I hg hm boot_enumerate (PyProof.Rows.callWith_type1 (thn (ha.run pos pins s σ H _ I h) fun us s1 ⟨vs, H1, I1, r1, q1⟩ => ?_) hs rfl))
  obtain ⟨a, xs, ex, hq, q⟩ := q1
  subst ex
  cases r1 with
  | cons r rr =>
    cases rr
    cases r
    obtain ⟨its, rv, p', hz⟩ := I1.tuple hq
    refine call_enumT (show s1.heap.IsTuple a its.toArray from p') fun h' he hit hsz hk => wpAny_pyIter_enum he ?_
    have I2 : Inv X pins σ H1 { s1 with heap := h' } := I1.kept (t' := s1.toks) hk
    refine ⟨s1.heap.objs.size + 1, [s1.heap.objs.size + 1, s1.heap.objs.size], _, _, H1, rfl, I2, turn_enumT a (s1.heap.objs.size + 1) s1.heap.objs.size, ⟨⟨.none, he⟩, hit, Nat.succ_ne_self _⟩, fun b hb => ?_, q⟩
    have e' : b = s1.heap.objs.size + 1 ∨ b = s1.heap.objs.size := by simpa using hb
    have hle : s1.heap.objs.size ≤ b := by
      rcases e' with z | z
      · rw [z]; exact Nat.le_add_right _ _
      · rw [z]; exact Nat.le_refl _
    exact I1.fpOk hle (I1.hok.fresh hle)
def asT1 (ds : List D) (O : Ow) (Q : List D → Ow → Prop) : Prop := match ds with
  | [.tup ds] => Q ds O
  | _ => False
def fiEnumT (fr : FA) : FI := fun ρ O Q => fr ρ O fun ds O1 => asT1 ds O1 fun ds O2 => Q (enumD ds) O2
section
variable {M : MX} {X : Cx} {fr : FA} {pos : Pos}
theorem di_enumT {e : Expr} {p tpos : Pos} {elts : List Expr} {kk : Nat} (hg : Gl X "enumerate") (hm : X.mg "enumerate" = none) (ha : DA M X [e] fr) (hs : starEach [e] X.env = [(false, eval e X.env)] := by rfl) :
    DI M X (.Tuple elts kk tpos) (.Call (.Name "enumerate" p) [e] [] pos) (fiEnumT fr) := piMono (pi_enumT hg hm ha hs) fun σ H Q h => by
  obtain ⟨F, O, P, ρ, R, g, en, q, po⟩ := h
  refine ⟨F, O, P, ρ, _, g, en, q, fun ds O1 F1 H1 vs q1 s1 g1 r1 => ?_⟩
  unfold asT1 at q1
  split at q1
  · rename_i ds
    obtain ⟨v, rfl, r1'⟩ := r1.one'
    simp only [Rep] at r1'
    obtain ⟨a, xs, rfl, h1, h2⟩ := r1'
    refine ⟨a, xs, rfl, Same.seqT g1.fz h1, po _ O1 F1 H1 _ q1 s1 g1 fun F2 O2 P2 H2 s2 g2 i => ⟨fun d e => ?_, fun hi => ?_⟩⟩
    · rw [enumD_get] at e
      obtain ⟨d0, e0, rfl⟩ := Option.map_eq_some_iff.mp e
      have sq : SqT X.K H2 a xs := Same.seqT g2.fz (Same.seqT s2 h1)
      obtain ⟨w, e1, r1⟩ := h2.get e0
      refine ⟨⟨xs, w, sq, e1⟩, fun x H3 hy => ?_⟩
      obtain ⟨T, y, rfl, hT, rfl, hx⟩ := hy
      have hxx := hx xs sq
      rw [e1] at hxx
      cases hxx
      have hF := g2.freeF hT
      refine ⟨upd F2 T (.tup [.int (i : Nat), w]), same_upd hF, g2.new hT, ?_⟩
      simp only [Rep]
      refine ⟨T, _, rfl, .inl (.inl upd_same), .cons (by simp only [Rep]) (.one ((r1.mono s2).mono (same_upd hF)))⟩
    · rw [enumD_length] at hi
      exact ⟨xs, Same.seqT g2.fz (Same.seqT s2 h1), by rw [← h2.length]; exact hi⟩
  · exact q1.elim
end
theorem ap_fiEnumT (fr : FA) {ρ : DEnv} {O : Ow} {Q : (List D → Ow → Prop)} : fiEnumT fr ρ O Q = (fr ρ O fun ds O1 => asT1 ds O1 fun ds O2 => Q (enumD ds) O2) := rfl
theorem asT1_t {ds : List D} {O : Ow} {Q : List D → Ow → Prop} : asT1 [.tup ds] O Q = Q ds O := rfl
end Kf
/-! Dl22: a finer room: one frame for each call. -/
namespace Kf
open PySem PySem.Spec L2
open PyProof.Rows hiding St
structure RoomT (k : Nat) (A : Around) : Prop where
  hd : A.handled = none
  dp : A.depth + k + 5 < recursionLimit
  un : A.units + 5 * k + 200 < cLine
theorem RoomT.deeper {k : Nat} {A : Around} (r : RoomT (k + 1) A) (env : Env) : RoomT k (A.deeper env) :=
  ⟨r.hd, by have := r.dp; show A.depth + 1 + k + 5 < _; omega, by have := r.un; show A.units + 3 + 5 * k + 200 < _; omega⟩
theorem RoomT.depth {k : Nat} {A : Around} (r : RoomT k A) : A.depth < recursionLimit := by have := r.dp; omega
theorem RoomT.u200 {k : Nat} {A : Around} (r : RoomT k A) : A.units + 200 < cLine := by have := r.un; omega
theorem RoomT.to {j k : Nat} {A : Around} (r : RoomT k A) (h : 4 * j ≤ k) : Room j A := ⟨r.hd, by have := r.dp; omega, by have := r.un; omega⟩
theorem RoomT.of {j k : Nat} {A : Around} (r : Room j A) (h : k ≤ 3 * j) : RoomT k A := ⟨r.hd, by have := r.dp; omega, by have := r.un; omega⟩
theorem RoomT.mono {j k : Nat} {A : Around} (r : RoomT k A) (h : j ≤ k) : RoomT j A := ⟨r.hd, by have := r.dp; omega, by have := r.un; omega⟩
/-- a def's promise by the finer room -/
structure FnT (P : Program) (w : World) (K : PySem.W.Frag) (mg : Str → Option Value) (base : Heap) (CX : CXT) (k : Nat) (f : Addr) (fd : FuncData) (ps : List Str) (sp : Sp) : Prop where
  len : ∀ vs H Q E, sp vs H Q E → vs.length = ps.length
  run : ∀ (A : Around) (outer : List Env) (s : Shared) (H : Hp) (args : Args) (us : List Value) (vs : List V) (Q : VK) (E : XK), RoomT k A → Env0 P w K mg base A outer s H → BindsTo s fd args (ps.zip us) → Vals vs us → sp vs H Q E →
    codeAny (model P w) A (.call (.ref f) args) (CR CX outer P w H s Q E) s
section
variable {P : Program} {w : World} {K : PySem.W.Frag} {mg : Str → Option Value} {base : Heap} {CX : CXT} {f : Addr} {fd : FuncData} {ps : List Str} {sp : Sp}
theorem FnT.of {j k : Nat} (F : FnOk P w K mg base CX j f fd ps sp) (h : 4 * j ≤ k) : FnT P w K mg base CX k f fd ps sp :=
  ⟨F.len, fun A outer s H args us vs Q E hr => F.run A outer s H args us vs Q E (hr.to h)⟩
theorem FnT.ok {j k : Nat} (F : FnT P w K mg base CX k f fd ps sp) (h : k ≤ 3 * j) : FnOk P w K mg base CX j f fd ps sp :=
  ⟨F.len, fun A outer s H args us vs Q E hr => F.run A outer s H args us vs Q E (.of hr h)⟩
theorem FnT.mono {j k : Nat} (F : FnT P w K mg base CX j f fd ps sp) (h : j ≤ k) : FnT P w K mg base CX k f fd ps sp :=
  ⟨F.len, fun A outer s H args us vs Q E hr => F.run A outer s H args us vs Q E (hr.mono h)⟩
end
section
variable {X : Cx} {e : Expr} {es : List Expr} {t : TA} {CX : CXT} {k : Nat} {f : Addr} {fd : FuncData} {ps : List Str} {sp : Sp} {E : XK} {x : Str} {p pos : Pos}
end
section
variable {M : MX} {X : Cx} {e : Expr} {es : List Expr} {fr : FA} {k : Nat} {f : Addr} {fd : FuncData} {ps : List Str} {dsp : DSp} {x : Str} {st : Stmt} {p pos : Pos}
end
section
variable {P : Program} {w : World} {K : PySem.W.Frag} {mg : Str → Option Value} {base : Heap}
end
end Kf
/-! Dl23: every second thing of a list, xs[::2], xs[1::2]. -/
namespace Kf
open PySem PySem.Spec L2
open PyProof.Rows hiding St
variable {M : MX}
def ev {α : Type} (l : List α) : List α := (List.range ((l.length + 1) / 2)).filterMap fun k => l[2 * k]?
theorem ev_nil {α : Type} : ev ([] : List α) = [] := by simp [ev]
theorem ev_one {α : Type} (x : α) : ev [x] = [x] := by simp [ev, List.range_succ]
theorem ev_two {α : Type} (x y : α) (r : List α) : ev (x :: y :: r) = x :: ev r := by
  unfold ev
  rw [show ((x :: y :: r).length + 1) / 2 = (r.length + 1) / 2 + 1 by simp only [List.length_cons]; omega, List.range_succ_eq_map, List.filterMap_cons]
  simp only [Nat.mul_zero, List.getElem?_cons_zero, List.filterMap_map]
  rfl
theorem RepAll.ev {K : PySem.W.Frag} {F : Hp} : ∀ (ds : List D) (vs : List V), RepAll K F ds vs → RepAll K F (Kf.ev ds) (Kf.ev vs)
  | [], vs, h => by simp only [RepAll] at h; subst h; rw [ev_nil, ev_nil]; exact .nil
  | [d], vs, h => by
    simp only [RepAll] at h
    obtain ⟨v, r, rfl, h1, rfl⟩ := h
    rw [ev_one, ev_one]; exact .one h1
  | d :: e :: ds, vs, h => by
    simp only [RepAll] at h
    obtain ⟨v, r, rfl, h1, v2, r2, rfl, h2, h3⟩ := h
    rw [ev_two, ev_two]; exact .cons h1 (RepAll.ev ds r2 h3)
section
variable {X : Cx} {e st lo : Expr} {fa : FE} {te : TE} {tst tlo : TO} {fs fl : FO} {pos p2 : Pos}
end
end Kf
/-! Dl24: a caught exception kept as a value behind the suite. -/
namespace Kf
open PySem PySem.Spec L2
open PyProof.Rows hiding St
variable {M : MX}
section
variable {X : Cx} {pins : List (Addr × Obj)} {σ : L2.St} {H : Hp} {s : Shared}
/-- a thing of the heap that is not tracked yet, nor was at the start, is tracked from now on -/
theorem Inv.track {a : Addr} {o : HO} {ob : Obj} {vs : Array Value} (I : Inv X pins σ H s) (ha : s.heap.get? a = some ob) (hd : ob.data = .fields vs) (hn : H a = none) (h0 : X.s_0.heap.get? a = none)
    (hp : ∀ p ∈ X.pn ++ pins, p.1 ≠ a) (new : ObjOk X.prog X.w (upd H a o) s.heap a o) : Inv X pins σ (upd H a o) s := by
  have n0 : ∀ {b u}, X.s_0.heap.get? b = some u → b ≠ a := fun e z => by rw [z, h0] at e; cases e
  have nH : ∀ {b u}, H b = some u → b ≠ a := fun e z => by rw [z, hn] at e; cases e
  refine ⟨I.ok, I.os, I.bare, ?_, I.loc, I.cell, ?_, ?_, ?_, ?_, I.len⟩
  · obtain ⟨b1, b2, b3, b4, b5, b6, b7⟩ := I.base
    refine ⟨b1, b2, fun b u e n x => ?_, b4, fun b xs e => ?_, fun b u xs e => ?_, fun b ps e => ?_⟩
    · rw [upd_ne (n0 e)]; exact b3 b u e n x
    · have z := b5 b xs e; rw [upd_ne (nH z)]; exact z
    · have z := b6 b u xs e; rw [upd_ne (nH z)]; exact z
    · obtain ⟨m, z⟩ := b7 b ps e; exact ⟨m, by rw [upd_ne (nH z)]; exact z⟩
  · have ne : X.env.locals ≠ a := fun z => by
      obtain ⟨m, ⟨oL, es, ep, hL, hdL, _⟩, _⟩ := I.loc
      rw [z, ha] at hL; cases hL
      rw [hd] at hdL; cases hdL
    rw [upd_ne ne]; exact I.free
  · intro x c e
    have ne : c ≠ a := fun z => by
      obtain ⟨v, oc, hc, hdc⟩ := I.cell x c e
      rw [z, ha] at hc; cases hc
      rw [hd] at hdc; cases hdc
    rw [upd_ne ne]; exact I.freeC x c e
  · intro p hm
    obtain ⟨k1, k2, k3⟩ := I.pin p hm
    exact ⟨k1, by rw [upd_ne (hp p hm)]; exact k2, k3⟩
  · intro b u e
    by_cases hb : b = a
    · subst hb; rw [upd_same] at e; cases e; exact new
    · rw [upd_ne hb] at e
      refine (I.hok b u e).stay (fun _ _ _ q => q) (fun c q => ?_) fun c xs q => ?_
      · rw [upd_ne (nH q)]; exact q
      · rw [upd_ne (nH q)]; exact q
/-- the exception's object at a -/
def xO (a : Addr) (cls : Value) (d : Option Addr) : HO := .ext fun h => ∃ oe vs, h.get? a = some oe ∧ Zc cls d oe ∧ oe.data = .fields vs
theorem xO_ok {P : Program} {w : World} {H : Hp} {h : Heap} {a : Addr} {cls : Value} {d : Option Addr} {oe : Obj} {vs : Array Value} (e : h.get? a = some oe) (z : Zc cls d oe) (k : oe.data = .fields vs) : ObjOk P w H h a (xO a cls d) :=
  ⟨⟨oe, vs, e, z, k⟩, ⟨oe, e⟩, fun _ _ ⟨o, v, q, r⟩ y => ⟨o, v, y o q, r⟩⟩
theorem xO_is {a : Addr} {cls : Value} {d : Option Addr} : IsX a cls d (xO a cls d) := ⟨_, rfl, fun _ z => z⟩
end
def wKeep (K : PySem.W.Frag) (c : Value) (i : Nat) (ts : Addr → Value → Option Addr → TS) (Wo : WX) (D : Ends) : WX := fun cls d σ H =>
  ∃ b, PySem.W.exmOne K cls c = some b ∧
    (b = true → ∀ a, H a = none → ts a cls d { nx := fun τ H2 => H2 a = none → D.nx (τ.set i none) (upd H2 a (xO a cls d)), rt := D.rt, bk := fun τ H2 => D.bk (τ.set i none) H2, ct := fun τ H2 => D.ct (τ.set i none) H2 } (σ.set i (some (.ref a))) H) ∧
    (b = false → Wo cls d σ H)
section
variable {X : Cx} {x n : Str} {c : Value} {i : Nat} {body suite : List Stmt} {b₀ : Stmt} {np pos pos' : Pos} {tb : WX → TS} {ts : Addr → Value → Option Addr → TS} {Wo : WX}
theorem ps_try_keep (hx : X.ex = []) (stk : X.stack = X.env :: X.outer) (frm : X.env.frame = some X.env.locals) (nd : X.N.Nodup) (at_ : X.N[i]? = some n) (kd : X.env.kindOf n = some .local) (nm : Names X x c) (tk : Takes X Wo)
    (hb : ∀ (W : WX) (pn : List (Addr × Obj)) (xe : Value → Shared → Prop), Takes (X.tr pn xe) W → PassesOwn (model X.prog X.w) X.A X.env xe → PSs (X.tr pn xe) body (tb W))
    (hsu : ∀ (a : Addr) (oe : Obj) (cls : Value) (d : Option Addr) (pn : List (Addr × Obj)), Zc cls d oe → (∃ vs, oe.data = .fields vs) → PSs (X.suite a ((a, oe) :: pn)) (b₀ :: suite) (ts a cls d)) :
    PS X (.Try body [.ExceptHandler (some (.Name x np)) (some n) (b₀ :: suite) pos'] [] [] pos) (fun D σ H => tb (wKeep X.K c i ts Wo D) D σ H) := by
  constructor
  intro pins s σ H D I h
  have xok := I.ok
  have frs_ : X.A.frames = some (X.env :: X.outer) := by rw [xok.frames, stk]
  apply wpAny_Try_except
  have B := hb (wKeep X.K c i ts Wo D) (X.pn ++ pins) (fun e s₁ => wpAny (model X.prog X.w) X.A (noteFrame e X.env) (fun _ s₂ => wpAny (model X.prog X.w) X.A (setFlight e none)
    (fun _ s₃ => wpAny (model X.prog X.w) X.A (handleBy e X.env [.ExceptHandler (some (.Name x np)) (some n) (b₀ :: suite) pos']) (SP X pins D) X.xe s₃) X.xe s₂) X.xe s₁) ?lnd PassesOwn.looking
  case lnd =>
    rintro u t ⟨a, G, tI, pins2, τ, H2, cls, d, rfl, J2, nG, up, sky, fr, os, ag, b, m1, yes, no⟩
    have J := J2.ofTry xok
    rw [stk] at sky
    show wpAny (model X.prog X.w) X.A (noteFrame (.ref a) X.env) _ _ _
    refine Sky.land Zc.steady frs_ frm sky fun g3 F3 U3 => ?_
    have J3 : Inv X pins τ H2 { t with heap := g3 } := J.landed nG F3.1 (up.trans U3) os ag
    obtain ⟨o3, v3, e3, z3, d3⟩ := F3.there
    have offS : a ∉ frs (X.env :: X.outer) := fun q => by
      obtain ⟨_, o', e', nf⟩ := F3.2.2.1.mem q
      rw [e3] at e'; cases e'
      exact nf _ d3
    have offL : a ≠ X.env.locals := fun z => offS (List.mem_filterMap.mpr ⟨X.env, List.mem_cons_self, by rw [frm, z]⟩)
    have offF : a ∉ X.fs := fun q => by
      obtain ⟨e, he, k⟩ := List.mem_filterMap.mp q
      exact offS (List.mem_filterMap.mpr ⟨e, List.mem_cons_of_mem _ he, k⟩)
    have newI : tI.heap.get? a = none := by
      cases e : tI.heap.get? a with
      | none => rfl
      | some o =>
        have k := nG a o e (by rw [stk]; exact offS)
        rw [F3.2.1] at k; cases k
    have new0 : X.s_0.heap.get? a = none := by
      cases e : X.s_0.heap.get? a with
      | none => rfl
      | some o =>
        obtain ⟨o', k⟩ := J.base.there a o e (by rw [hx]; exact fun z => nomatch z)
        rw [newI] at k; cases k
    have newP : ∀ p ∈ X.pn ++ pins, p.1 ≠ a := fun p hp z => by
      have k := (J.pin p hp).1
      rw [z, newI] at k; cases k
    have S3 := J3.suite e3 d3 fr offL offF
    refine wpAny_handleBy_cons (codeAny_handlers_test ?_) (by intro q; cases q)
    have look : PySem.W.Looks (model X.prog X.w) g3 (typeOf (.ref a)) cls := fun A Q E s k q => wpAny_typeOf_ref (k _ _ e3) (by rw [z3.1]; exact q)
    have asked := PySem.W.exm_one (M := model X.prog X.w) J3.kIn look m1
    have named : ∀ {Q E : Value → Shared → Prop}, Q c { t with heap := g3 } → wpAny (model X.prog X.w) (X.A.mark (some (.ref a))) (eval (.Name x np) X.env) Q E { t with heap := g3 } := by
      intro Q E q
      obtain ⟨hg, hd, k | ⟨k, kb, kn⟩⟩ := nm
      · exact ld_glob (X := X.suite a ((a, o3) :: (X.pn ++ pins))) S3 hg k q hd
      · exact ld_blt (X := X.suite a ((a, o3) :: (X.pn ++ pins))) S3 hg k kb q kn hd
    refine named (asked.here ?_)
    cases b with
    | false =>
      show wpAny _ X.A (handleBy (.ref a) X.env []) _ _ _
      apply wpAny_handleBy_nil
      obtain ⟨_, _, _, oe, vs, Tb, oT, ts', he, _, hd, h1, _⟩ := id F3
      unfold PySem.passOn
      refine wpAny_bind (wpAny_field he hd h1 ?_)
      rw [if_neg (show ¬ ((Value.ref Tb == Value.none) = true) from by simp)]
      have out : wpAny (model X.prog X.w) X.A (setFlight (.ref a) X.env.frame) (fun _ s4 => wpAny (model X.prog X.w) X.A (throw (.ref a) : Sem Flow) (SP X pins D) X.xe s4) X.xe { t with heap := g3 } := by
        rw [frm]
        exact HandSPX.setFlight_upZ F3 fun h4 hh4 up4 => wpAny_throw (tk _ _ ⟨a, G, tI, pins, τ, H2, cls, d, rfl, J, nG, (up.trans U3).trans up4, .inr (.inr (by rw [stk]; exact hh4)), fr, os, ag, no rfl⟩)
      first
        | exact wpAny_bind (wpAny_pure (wpAny_bind out))
        | exact wpAny_bind out
    | true =>
      apply codeAny_handlers_suite_as
      refine HandSPX.lands_againZ F3 fun g4 F4 U4 => ?_
      have J4 : Inv X pins τ H2 { t with heap := g4 } := J.landed nG F4.1 ((up.trans U3).trans U4) os ag
      obtain ⟨o4, v4, e4, z4, d4⟩ := F4.there
      have S4 := J4.suite e4 d4 fr offL offF
      refine store_ok (X := X.suite a ((a, o4) :: (X.pn ++ pins))) (v := .ref a) S4 nd at_ (.inl kd) rfl (fun t5 S5 => ?_) (.inr kd)
      refine wpAny_mono ((hsu a o4 cls d (X.pn ++ pins) z4 ⟨_, d4⟩).run [] t5 _ H2 _ S5 (yes rfl a fr)) (fun f t6 hsp => ?_) (fun _ _ z => False.elim z)
      cases f with
      | next =>
        obtain ⟨τ6, H6, S6, q6⟩ := hsp
        obtain ⟨p1, p2, _⟩ := S6.pin (a, o4) (List.mem_append.mpr (.inl List.mem_cons_self))
        have K6 := Inv.track (o := xO a cls d) (S6.unsuite xok) p1 d4 p2 new0 newP (xO_ok p1 z4 d4)
        exact gone_ok K6 nd at_ kd fun t7 K7 => ⟨_, _, K7, q6 p2⟩
      | brk =>
        obtain ⟨τ6, H6, S6, q6⟩ := hsp
        exact gone_ok (S6.unsuite xok) nd at_ kd fun t7 K7 => ⟨_, _, K7, q6⟩
      | cont =>
        obtain ⟨τ6, H6, S6, q6⟩ := hsp
        exact gone_ok (S6.unsuite xok) nd at_ kd fun t7 K7 => ⟨_, _, K7, q6⟩
      | ret u =>
        obtain ⟨v6, τ6, H6, S6, r6, q6⟩ := hsp
        exact gone_ok (S6.unsuite xok) nd at_ kd fun t7 K7 => ⟨_, _, _, K7, r6, q6⟩
  refine wpAny_mono (B.run [] s σ H D (I.toTry _) h) (fun f s1 hsp => ?_) (fun e s1 he => he)
  cases f with
  | next =>
    obtain ⟨τ, H2, J, q⟩ := hsp
    exact wpAny_execs_nil ⟨τ, H2, J.ofTry xok, q⟩
  | brk =>
    obtain ⟨τ, H2, J, q⟩ := hsp
    exact ⟨τ, H2, J.ofTry xok, q⟩
  | cont =>
    obtain ⟨τ, H2, J, q⟩ := hsp
    exact ⟨τ, H2, J.ofTry xok, q⟩
  | ret u =>
    obtain ⟨v, τ, H2, J, r, q⟩ := hsp
    exact ⟨v, τ, H2, J.ofTry xok, r, q⟩
end
/-! ### over data -/
/-- the ends with slot i empty; at the suite's end the exception is kept at a -/
def endsKeep (i : Nat) (a : Addr) (cls : Value) (fs : Option (List (Str × D))) (R : DEnds) : DEnds :=
  { nx := fun ρ O => O a = none → R.nx (ρ.set i none) (updO O a (.exc cls fs)), rt := R.rt, bk := fun ρ O => R.bk (ρ.set i none) O, ct := fun ρ O => R.ct (ρ.set i none) O }
def xKp (K : PySem.W.Frag) (c : Value) (i : Nat) (gs : Addr → Value → Option (List (Str × D)) → GS) (RXo : XW) (R : DEnds) : XW := fun cls fs ρ O => ∃ b, PySem.W.exmOne K cls c = some b ∧
  (b = true → ∀ a, O a = none → gs a cls fs (endsKeep i a cls fs R) (ρ.set i (some (.ref a))) O) ∧ (b = false → RXo cls fs ρ O)
/-- try: .. except C as n: .. where the suite keeps what n is -/
def gTryKp (K : PySem.W.Frag) (c : Value) (i : Nat) (gb : XW → GS) (gs : Addr → Value → Option (List (Str × D)) → GS) (RXo : XW) : GS := fun R ρ O => gb (xKp K c i gs RXo R) R ρ O
section
variable {X : Cx} {x n : Str} {c : Value} {i : Nat} {body suite : List Stmt} {b₀ : Stmt} {np pos pos' : Pos} {gb : XW → GS} {gs : Addr → Value → Option (List (Str × D)) → GS} {RXo : XW} {Wo : WX}
theorem ds_try_keep (hN : X.N.Nodup) (hi : X.N[i]? = some n) (hln : X.env.kindOf n = some .local) (hc : Names X x c) (tk : Takes X Wo) (ho : Outs M X.K RXo Wo)
    (hb : ∀ (RX : XW) (W : WX) (pn : List (Addr × Obj)) (xe : Value → Shared → Prop), Takes (X.tr pn xe) W → PassesOwn (model X.prog X.w) X.A X.env xe → DSs (mxw X.K RX W) (X.tr pn xe) body (gb RX))
    (hsu : ∀ (fs : Option (List (Str × D))) (a : Addr) (oe : Obj) (cls : Value) (d : Option Addr) (pn : List (Addr × Obj)), Zc cls d oe → (∃ vs, oe.data = .fields vs) → DSs (mxe X.K fs d) (X.suite a ((a, oe) :: pn)) (b₀ :: suite) (gs a cls fs))
    (hx : X.ex = [] := by rfl) (hs : X.stack = X.env :: X.outer := by rfl) (hf : X.env.frame = some X.env.locals := by rfl) :
    DS M X (.Try body [.ExceptHandler (some (.Name x np)) (some n) (b₀ :: suite) pos'] [] [] pos) (gTryKp X.K c i gb gs RXo) :=
  psMono (ps_try_keep (tb := fun W => liftSW X.K W gb) (ts := fun a cls d => liftSE X.K (gs a cls) d) hx hs hf hN hi hln hc tk (fun W pn xe tk' ps => pss_sw (X := X.tr pn xe) fun RX => hb RX W pn xe tk' ps)
    (fun a oe cls d pn hz hf' => pss_se (X := X.suite a ((a, oe) :: pn)) fun fs => hsu fs a oe cls d pn hz hf')) fun D σ H h => by
  obtain ⟨F, O, P, ρ, R, g, en, q, po⟩ := h
  refine ⟨_, F, O, P, ρ, R, g.re ⟨P, Same.refl _, fun cls fs ρ' O' F' H' dd σ' q1 s1 g1 xd en1 => ?_⟩, en, q, po.re g⟩
  obtain ⟨b, hb1, hb2, hb3⟩ := q1
  refine ⟨b, hb1, fun hbt a ha => ?_, fun hbf => ho F' O' P H' cls fs ρ' dd σ' (g1.re (M.mono g.rl s1 (Same.refl _))) (hb3 hbf) xd en1⟩
  have z := hb2 hbt a (g1.freeO ha)
  obtain ⟨F2, s2, g2⟩ := g1.holdX xd
  refine ⟨fs, F2, O', P, ρ'.set i (some (.ref a)), _, g2, (en1.mono s2).set (by simp only [Rep]) i, z, ⟨fun ρ3 O3 F3 H3 σ3 q3 s3 g3 en3 h3 => ?_, fun d3 O3 F3 H3 v3 q3 s3 g3 r3 => ?_, fun ρ3 O3 F3 H3 σ3 q3 s3 g3 en3 => ?_, fun ρ3 O3 F3 H3 σ3 q3 s3 g3 en3 => ?_⟩⟩
  · have gk := (g3.re (M' := M) (M.mono g.rl (s1.trans (s2.trans s3)) (Same.refl _))).newO (o := xO a cls dd) (c := .exc cls fs) h3 ⟨_, dd, upd_same, xO_is, g3.rl⟩
    exact po.nx _ _ F3 _ _ (q3 (g3.freeO h3)) (s1.trans (s2.trans s3)) gk (en3.wipe i)
  · exact po.rt _ O3 F3 H3 _ q3 (s1.trans (s2.trans s3)) (g3.re (M.mono g.rl (s1.trans (s2.trans s3)) (Same.refl _))) r3
  · exact po.bk _ O3 F3 H3 _ q3 (s1.trans (s2.trans s3)) (g3.re (M.mono g.rl (s1.trans (s2.trans s3)) (Same.refl _))) (en3.wipe i)
  · exact po.ct _ O3 F3 H3 _ q3 (s1.trans (s2.trans s3)) (g3.re (M.mono g.rl (s1.trans (s2.trans s3)) (Same.refl _))) (en3.wipe i)
end
/-! ### a held exception asked -/
/-- the object and its dict, on the heap -/
theorem heldAt {X : Cx} {pins : List (Addr × Obj)} {σ : L2.St} {F O P H} {s : Shared} {b C : Addr} {fs : Option (List (Str × D))} (I : L2.Inv X pins σ H s) (g : Gd M X.K F O P H) (h : O b = some (.exc (.ref C) fs)) :
    ∃ oe od, PySem.W.InstAt s.heap b oe C od ∧ ∀ l, fs = some l → ∃ (fv : List (Str × V)) (mA : Str → Option Value) (o : Obj), FsOk X.K F l fv ∧ od = some o ∧ (∀ f, RelO (fv.lookup f) (mA f)) ∧ ∀ n, PySem.W.lookIn n o = some (mA n) := by
  obtain ⟨_, _, o, d, hH, ⟨φ, rfl, hφ⟩, hx⟩ := g.ow b _ h
  have k : ObjOk X.prog X.w H s.heap b (.ext φ) := I.hok b _ hH
  obtain ⟨oe, vs, e1, z, e2⟩ := hφ _ k.1
  have no : PySem.W.notCls oe = true := by unfold PySem.W.notCls; rw [e2] <;> rfl
  cases fs with
  | none =>
    have hd : d = none := hx
    subst hd
    exact ⟨oe, none, ⟨e1, z.1, no, by rw [z.2]; trivial⟩, fun l e => nomatch e⟩
  | some l =>
    obtain ⟨dx, fv, rfl, h1, h2⟩ := hx
    have kd : ObjOk X.prog X.w H s.heap dx (.xd fv) := I.hok dx _ (g.fz _ _ h1)
    obtain ⟨mA, hns, hr⟩ := kd
    obtain ⟨od, ho, hl⟩ := lookIn_ns hns
    exact ⟨oe, some od, ⟨e1, z.1, no, by rw [z.2]; exact ho⟩, fun l' e => by cases e; exact ⟨fv, mA, od, h2, rfl, hr, hl⟩⟩
def rIsXD (K : PySem.W.Frag) : RAD := fun ds O Q => match ds with
  | [.ref b, .tup cs] => ∃ C fs us bb, O b = some (.exc (.ref C) fs) ∧ ExcC K C ∧ Paired clsD cs us ∧ PySem.W.kitAny K (.ref C) us = some bb ∧ Q (.bl bb) O
  | [.ref b, c] => ∃ C fs cv bb, O b = some (.exc (.ref C) fs) ∧ ExcC K C ∧ clsD c cv ∧ PySem.W.kitOne K (.ref C) cv = some bb ∧ Q (.bl bb) O
  | _ => False
theorem excC_cl {K : PySem.W.Frag} {C : Addr} (h : ExcC K C) : (PySem.W.clsIn K C).isSome = true := by
  obtain ⟨cd, hc, _⟩ := PySem.W.any_some h.hd
  rw [hc]; rfl
theorem cd_isX {X : Cx} : CallD M X (.builtin "isinstance") (rIsXD X.K) := by
  intro pins s σ H xs us Q I r h
  obtain ⟨F, O, P, ds, R, g, rr, q, po⟩ := h
  unfold rIsXD at q
  split at q
  · rename_i b cs
    obtain ⟨C, fs, us', bb, hb, hC, hp, e, q⟩ := q
    obtain ⟨v, w, rfl, r1, r2⟩ := rr.two'
    simp only [Rep] at r1 r2
    subst r1
    obtain ⟨tp, vs, rfl, ht, rs⟩ := r2
    obtain ⟨its, rv, hit, _⟩ := I.tuple (Same.seqT g.fz ht)
    have eu := clsDs hp rs rv
    subst eu
    obtain ⟨oe, od, J, _⟩ := heldAt I g hb
    cases r with
    | cons ra rb =>
      cases rb with
      | cons rb rc =>
        cases rc
        cases ra
        cases rb
        obtain ⟨dd, n, sl, hit⟩ : ∃ dd n sl, s.heap.get? tp = some ⟨.type "tuple", dd, .seq its.toArray n, sl⟩ := by
          obtain ⟨⟨oc, od, oda, osl⟩, h1, h2, n, h3⟩ := hit
          dsimp only at h2 h3
          subst h2 h3
          exact ⟨od, n, osl, h1⟩
        exact PySem.W.kia_tup (PySem.W.kitx_exc (excC_cl hC) hC.hg hC.hk hC.hs hC.ha hC.hn hC.ht hC.hm) I.kIn J hit e (fun z => nomatch z) fun tk => ⟨.bl bb, H, I.kept (t' := tk) fun _ _ z => z, rfl, po.at g q (by simp only [Rep])⟩
  · rename_i b c _
    obtain ⟨C, fs, cv, bb, hb, hC, hcv, e, q⟩ := q
    obtain ⟨v, w, rfl, r1, r2⟩ := rr.two'
    simp only [Rep] at r1
    subst r1
    obtain ⟨oe, od, J, _⟩ := heldAt I g hb
    cases r with
    | cons ra rb =>
      cases rb with
      | cons rb rc =>
        cases rc
        cases ra
        have eu := hcv.uniq r2 rb
        subst eu
        exact PySem.W.kia_one (PySem.W.kitx_exc (excC_cl hC) hC.hg hC.hk hC.hs hC.ha hC.hn hC.ht hC.hm) I.kIn J e (fun z => nomatch z) fun tk => ⟨.bl bb, H, I.kept (t' := tk) fun _ _ z => z, rfl, po.at g q (by simp only [Rep])⟩
  · exact q.elim
theorem FsOk.get {K : PySem.W.Frag} {F : Hp} {fs : List (Str × D)} {fv : List (Str × V)} {f : Str} {d : D} (h : FsOk K F fs fv) (e : fs.lookup f = some d) : ∃ v, fv.lookup f = some v ∧ Rep K F d v := by
  induction h with
  | nil => simp at e
  | @cons p q _ _ r _ ih =>
    obtain ⟨p1, p2⟩ := p
    obtain ⟨q1, q2⟩ := q
    obtain ⟨r1, r2⟩ := r
    dsimp only at r1 r2
    subst r1
    rw [List.lookup_cons] at e ⊢
    cases c : (f == p1) with
    | true => rw [c] at e; cases e; exact ⟨q2, rfl, r2⟩
    | false => rw [c] at e; exact ih e
/-- e.f of a held exception -/
def fXf (K : PySem.W.Frag) (f : Str) (fe : FE) : FE := fun ρ O Q => fe ρ O fun x O1 => ∃ b C fs d, x = .ref b ∧ O1 b = some (.exc (.ref C) (some fs)) ∧ fs.lookup f = some d ∧ ExcC K C ∧ PySem.W.findIn K (.ref C) f = some none ∧ Q d O1
theorem de_xf {X : Cx} {e : Expr} {fe : FE} {n : Str} {pos : Pos} (he : DE M X e fe) (hb : attributeBase e n X.env (eval e X.env) = eval e X.env := by rfl) : DE M X (.Attribute e n pos) (fXf X.K n fe) := by
  refine ⟨fun pins s σ H Q I h => ?_⟩
  obtain ⟨F, O, P, ρ, R, g, en, q, po⟩ := h
  have step := he.run pins s σ H (fun v' H' => ∃ F1 O1 x, Rep X.K F1 x v' ∧ Same F F1 ∧ Gd M X.K F1 O1 P H' ∧ ∃ b C fs d, x = .ref b ∧ O1 b = some (.exc (.ref C) (some fs)) ∧ fs.lookup n = some d ∧ ExcC X.K C ∧ PySem.W.findIn X.K (.ref C) n = some none ∧ R d O1) I
    ⟨F, O, P, ρ, _, g, en, q, fun x O1 F1 H1 v q1 s1 g1 r1 => ⟨F1, O1, x, r1, s1, g1, q1⟩⟩
  refine attr_of hb (thn step fun u s1 hh => ?_)
  · obtain ⟨v, H1, I1, ru, F1, O1, x, r1, s1', g1, b, C, fs, d, rfl, hO, hl, hC, hn, q2⟩ := hh
    simp only [Rep] at r1
    subst r1
    obtain rfl : u = Value.ref b := ru
    obtain ⟨oe, od, J, hf⟩ := heldAt I1 g1 hO
    obtain ⟨fv, mA, o, k1, rfl, k3, k4⟩ := hf fs rfl
    obtain ⟨w, ew, rw'⟩ := k1.get hl
    obtain ⟨u, hu, ru⟩ := RelO.some_of (v := w) (o := mA n) (by rw [← ew]; exact k3 n)
    exact HandSPX.exc_get I1.kIn J hC.hg hC.hk hC.hs (PySem.W.findObj_own hC.hd hn rfl (by rw [k4, hu])) (handed_of ru) ⟨w, H1, I1.tok _, ru, po d O1 F1 H1 w q2 s1' g1 rw'⟩
theorem ap_fXf (K : PySem.W.Frag) (f : Str) (fe : FE) {ρ : DEnv} {O : Ow} {Q : VD} : fXf K f fe ρ O Q = fe ρ O fun x O1 => ∃ b C fs d, x = .ref b ∧ O1 b = some (.exc (.ref C) (some fs)) ∧ fs.lookup f = some d ∧ ExcC K C ∧ PySem.W.findIn K (.ref C) f = some none ∧ Q d O1 := rfl
end Kf
/-! Dl25: dicts compared, cleared; max of a tuple of ints; instances of own classes: fields, methods, making. -/
namespace Kf
open PySem PySem.Spec L2
open PyProof.Rows hiding St
variable {M : MX}
/-! ### dicts of data compared -/
section
variable {X : Cx} {pins : List (Addr × Obj)} {σ : L2.St} {F P H : Hp} {O : Ow} {s : Shared}
end
section
variable {X : Cx}
end
section
variable {X : Cx} {o : Expr} {fo : FE} {apos cpos pos : Pos}
end
section
variable {X : Cx}
end
/-! ### instances of own classes -/
def putFD (f : Str) (v : D) : List (Str × D) → List (Str × D)
  | [] => [(f, v)]
  | (g, x) :: r => if g = f then (g, v) :: r else (g, x) :: putFD f v r
theorem FsOk.put {K : PySem.W.Frag} {F : Hp} {f : Str} {d : D} {v : V} (r : Rep K F d v) {fs : List (Str × D)} {fv : List (Str × V)} (h : FsOk K F fs fv) : FsOk K F (putFD f d fs) (putF f v fv) := by
  induction h with
  | nil => exact .cons ⟨rfl, r⟩ .nil
  | @cons p q ps qs z t ih =>
    obtain ⟨p1, p2⟩ := p
    obtain ⟨q1, q2⟩ := q
    obtain ⟨z1, z2⟩ := z
    dsimp only at z1 z2
    subst z1
    unfold putFD putF
    split
    · exact .cons ⟨rfl, r⟩ t
    · exact .cons ⟨rfl, z2⟩ ih
theorem FsOk.none {K : PySem.W.Frag} {F : Hp} {f : Str} {fs : List (Str × D)} {fv : List (Str × V)} (h : FsOk K F fs fv) (e : fs.lookup f = none) : fv.lookup f = none := by
  induction h with
  | nil => rfl
  | @cons p q _ _ r _ ih =>
    obtain ⟨p1, p2⟩ := p
    obtain ⟨q1, q2⟩ := q
    obtain ⟨r1, r2⟩ := r
    dsimp only at r1 r2
    subst r1
    rw [List.lookup_cons] at e ⊢
    cases c : (f == p1) with
    | true => rw [c] at e; cases e
    | false => rw [c] at e; exact ih e
theorem FsOk.length {K : PySem.W.Frag} {F : Hp} {fs : List (Str × D)} {fv : List (Str × V)} (h : FsOk K F fs fv) : fs.length = fv.length := Paired.length h
section
variable {X : Cx} {o e value : Expr} {es : List Expr} {f m x : Str} {pos pos' apos p : Pos} {fo fe : FE} {fr : FA} {k : Nat} {C g0 : Addr} {fd : FuncData} {ps : List Str} {dsp : DSp}
/-- a method as it stands -/
structure Mt (K : PySem.W.Frag) (C : Addr) (m qual : Str) (st : Stmt) (ps : List Str) (f : Addr) (fd : FuncData) : Prop where
  F : Fun K m qual st f fd
  m : Meth K C m f
  b : Binds K fd ps []
/-- a class that is made by its __init__ -/
structure MkN (K : PySem.W.Frag) (mg : Str → Option Value) (x : Str) (C : Addr) (f : Addr) : Prop where
  made : Mk K C f
  g : mg x = some (.ref C)
end
section
variable {O : Ow} {a C : Addr} {fs : List (Str × D)} {f m : Str} {d : D} {Q : VD} {N : Ow → Prop}
end
end Kf
/-! Dl26: defs as values (called, compared), a caught exception that the suite holds as a thing. -/
namespace Kf
open PySem PySem.Spec L2
open PyProof.Rows hiding St
variable {M : MX}
/-! ### functions compared -/
section
variable {prog : Program} {w : World} {A : Around} {E : Value → Shared → Prop} {s : Shared} {x y : Addr}
end
section
variable {X : Cx}
end
/-! ### a call of what an expression tells -/
section
variable {P : Program} {w : World} {K : PySem.W.Frag} {mg : Str → Option Value} {base : Heap} {CX : CXT} {k : Nat}
end
section
variable {X : Cx} {e f₀ : Expr} {es : List Expr} {fe : FE} {fr : FA} {k : Nat} {S : Addr → DSp → Prop} {pos : Pos} {RX : XW} {W : WX}
end
section
variable {X : Cx} {x n : Str} {c : Value} {i : Nat} {body suite : List Stmt} {b₀ : Stmt} {np pos pos' : Pos} {tb : WX → TS} {ts : TS} {Wo : WX}
end
/-! ### a caught exception held in the suite -/
section
variable {X : Cx} {x n : Str} {c : Value} {i : Nat} {body suite : List Stmt} {b₀ : Stmt} {np pos pos' : Pos} {gb : XW → GS} {gs : GS} {RXo : XW} {Wo : WX}
end
/-! ### a def that is called while an exception is handled -/
structure RoomC (k : Nat) (A : Around) : Prop where
  dp : A.depth + 3 * k + 5 < recursionLimit
  un : A.units + 16 * k + 200 < cLine
theorem RoomC.deeper {k : Nat} {A : Around} (r : RoomC (k + 1) A) (env : Env) : RoomC k (A.deeper env) :=
  ⟨by have := r.dp; show A.depth + 1 + 3 * k + 5 < _; omega, by have := r.un; show A.units + 3 + 16 * k + 200 < _; omega⟩
structure FnC (P : Program) (w : World) (K : PySem.W.Frag) (mg : Str → Option Value) (base : Heap) (CX : CXT) (k : Nat) (f : Addr) (fd : FuncData) (ps : List Str) (sp : Sp) : Prop where
  len : ∀ vs H Q E, sp vs H Q E → vs.length = ps.length
  run : ∀ (A : Around) (outer : List Env) (s : Shared) (H : Hp) (args : Args) (us : List Value) (vs : List V) (Q : VK) (E : XK), RoomC k A → Env0 P w K mg base A outer s H → BindsTo s fd args (ps.zip us) → Vals vs us → sp vs H Q E →
    codeAny (model P w) A (.call (.ref f) args) (CR CX outer P w H s Q E) s
section
variable {P : Program} {w : World} {K : PySem.W.Frag} {mg : Str → Option Value} {base : Heap}
end
section
variable {X : Cx} {e : Expr} {es : List Expr} {fr : FA} {k : Nat} {f : Addr} {fd : FuncData} {ps : List Str} {dsp : DSp} {x : Str} {st : Stmt} {p pos : Pos}
end
end Kf
set_option maxHeartbeats 1000000
/-! Dl27: exceptions made as values, with and without an own __init__ that keeps one field; the latter raised. -/
namespace Kf
open PySem PySem.Spec L2
open PyProof.Rows hiding St
variable {M : MX}
/-! ### without an own __init__ -/
section
variable {X : Cx} {e : Expr} {fe : FE} {x : Str} {C : Addr} {p pos : Pos}
end
/-! ### with an own __init__ -/
/-- the base class of all own exceptions: its __init__ is ValueError's -/
structure BaseX (K : PySem.W.Frag) (mg : Str → Option Value) (x : Str) (B : Addr) : Prop where
  g : mg x = some (.ref B)
  sp : PySem.W.specialIn K (.ref B) "__getattribute__" = some (some (.builtin "type.__getattribute__"))
  ty : PySem.W.typeIn K (.ref B) = some (.type "type")
  rd : PySem.W.readsIn K B (.type "type") = true
  fc : PySem.W.findCls K (.ref B) (.type "type") "__init__" = some (.val (.builtin "ValueError.__init__"))
section
variable {X : Cx} {e : Expr} {es : List Expr} {ta : TA} {x : Str} {B : Addr} {p1 p2 pos : Pos}
theorem pe_binit {pl : Sem Bool} (b : BaseX X.K X.mg x B) (hg : Gl X x) (ha : PA X (e :: es) ta) (hdb : (x == ("__debug__" : Str)) = false := by decide)
    (hc : eval (.Call (.Attribute (.Name x p1) "__init__" p2) (e :: es) [] pos) X.env = (do
      let ov ← eval (.Name x p1) X.env
      standAt p2.atName
      let (f, first) ← holding [ov] (getMethod ov "__init__" pl)
      callWith pos f first (backTo pos (starEach (e :: es) X.env)) (backToKw pos (keywordEach [] X.env))) := by rfl)
    (he : starEach (e :: es) X.env = (false, eval e X.env) :: starEach es X.env := by rfl) (hpl : (backTo pos (starEach es X.env)).any (·.1) = false := by rfl) :
    PE X (.Call (.Attribute (.Name x p1) "__init__" p2) (e :: es) [] pos) (tVeI X.K ta) := by
  refine ⟨fun pins s σ H Q I h => ?_⟩
  refine PySem.W.methodCall_KW (ld_glob I hg b.g ?_ hdb) hc
  obtain ⟨m, fr⟩ := I.fr
  refine PySem.W.method_of_cls fr I.ok.mod.kin b.sp (PySem.W.cls_val fr I.ok.mod.kin b.ty b.rd b.fc (by decide +kernel) ?_)
  show wpAny _ _ (callWith pos (Value.builtin "ValueError.__init__") [] (backTo pos (starEach (e :: es) X.env)) []) _ _ _
  refine PyProof.Rows.callWith_method1 (thn (ha.run pos pins _ σ H _ (I.tok _) h) fun us s1 ⟨vs, H1, I1, r1, a, C, ws, ev, hl, T, ea, q⟩ => ?_) he hpl
  subst ev
  cases r1 with
  | @cons _ u0 _ ur ra rw' =>
    obtain rfl : u0 = Value.ref a := ra
    have hlen : ur.length ≤ sizeLine := by
      rw [← Paired.length rw', sizeLine_eq]
      omega
    exact oinit_ok T I1 ea hlen fun s' J => ⟨.non, H1, J, rfl, q⟩
end
/-- what such an __init__ does: the field f is kept -/
def spI (C : Addr) (f : Str) : Sp := fun vs H Q _ => ∃ a y, vs = [.ref a, y] ∧ H a = some (exo a C none) ∧ ∀ dx, H dx = none → dx ≠ a → Q .non (upd (upd H dx (exd dx [(f, y)])) a (exo a C (some dx)))
/-- an own class of exceptions whose __init__ keeps what it is given as the field f -/
structure ExI (K : PySem.W.Frag) (mg : Str → Option Value) (x f : Str) (C fI : Addr) (fd : FuncData) (qual : Str) (st : Stmt) (ps : List Str) : Prop where
  T : OexC K C
  g : mg x = some (.ref C)
  iC : PySem.W.findIn K (.ref C) "__init__" = some (some (.ref fI))
  tI : PySem.W.typeIn K (.ref fI) = some (.type "function")
  no : PySem.W.findIn K (.ref C) f = some none
  F : Fun K "__init__" qual st fI fd
  b : Binds K fd ps []
section
variable {X : Cx} {CX : CXT} {e : Expr} {es : List Expr} {ta : TA} {x f : Str} {C fI : Addr} {fd : FuncData} {qual : Str} {st : Stmt} {ps : List Str} {k : Nat} {p pos : Pos}
end
section
variable {X : Cx} {e : Expr} {es : List Expr} {fr : FA} {x f : Str} {C fI : Addr} {fd : FuncData} {qual : Str} {st : Stmt} {ps : List Str} {k : Nat} {p pos pos' : Pos} {RX : XW} {W : WX}
theorem rep_one {K : PySem.W.Frag} {F : Hp} {d : D} {vs : List V} (h : RepAll K F [d] vs) : ∃ v, vs = [v] ∧ Rep K F d v := by
  have hl := h.length
  match vs, hl, h with
  | [v], _, h => exact ⟨v, rfl, by obtain ⟨w, h1, h2⟩ := h.get (i := 0) rfl; cases h1; exact h2⟩
def gRaiseI (RX : XW) (C : Addr) (f : Str) (fr : FA) : GS := fun _ ρ O => fr ρ O fun ds O1 => ∃ d, ds = [d] ∧ RX (.ref C) (some [(f, d)]) ρ O1
theorem ds_raiseI (N : ExI X.K X.mg x f C fI fd qual st ps) (F1 : FnOk X.prog X.w X.K X.mg X.base CX0 k fI fd ps (spI C f)) (hr : Room (k + 1) X.A) (hc : X.calm = true) (tk : Takes X W) (hg : Gl X x) (ha : DA (mxw X.K RX W) X (e :: es) fr)
    (hdb : (x == ("__debug__" : Str)) = false := by decide) (he : starEach (e :: es) X.env = (false, eval e X.env) :: starEach es X.env := by rfl) (hpl : (backTo pos (starEach es X.env)).any (·.1) = false := by rfl) :
    DS (mxw X.K RX W) X (.Raise (some (.Call (.Name x p) (e :: es) [] pos)) none pos') (gRaiseI RX C f fr) :=
  psMono (ps_raise hc tk (pmk_oex N.T N.iC N.tI F1 hr N.b .nil pass0 hg N.g ha hdb he hpl)) fun D σ H h => by
    obtain ⟨F, O, P, ρ, R, g, en, q, po⟩ := h
    refine ⟨F, O, P, ρ, _, g, en, q, fun ds O1 F1 H1 vs q1 s1 g1 r1 => ?_⟩
    obtain ⟨d, rfl, q2⟩ := q1
    obtain ⟨v, rfl, rv⟩ := rep_one r1
    refine ⟨by simp, fun a han => ⟨a, v, rfl, upd_same, fun dx h1 h2 => ⟨rfl, dx, [(f, v)], upd_same, by rw [upd_ne h2, upd_same], by rw [upd_ne h2] at h1; exact h1, ?_⟩⟩⟩
    have hx : H1 dx = none := by rw [upd_ne h2] at h1; exact h1
    have eH : upd (del (upd (upd (upd H1 a (exo a C none)) dx (exd dx [(f, v)])) a (exo a C (some dx))) a) dx (.xd [(f, v)]) = upd H1 dx (.xd [(f, v)]) := by
      funext b
      by_cases hb : b = dx
      · rw [hb, upd_same, upd_same]
      · rw [upd_ne hb, upd_ne hb]
        by_cases hc : b = a
        · rw [hc, del_same, han]
        · rw [del_ne hc, upd_ne hc, upd_ne hb, upd_ne hc]
    rw [eH]
    have g2 := g1.new (o := .xd [(f, v)]) hx
    have s2 : Same F1 (upd F1 dx (.xd [(f, v)])) := same_upd (g1.freeF hx)
    exact g2.wish q2 ⟨dx, [(f, v)], rfl, upd_same, .cons ⟨rfl, rv.mono s2⟩ .nil⟩ (en.mono (s1.trans s2))
end
section
variable {P : Program} {w : World} {K : PySem.W.Frag} {mg : Str → Option Value} {base : Heap}
theorem fn_initI {C fI : Addr} {fd : FuncData} {f m qual : Str} {st : Stmt} {N ps : List Str} {k : Nat} (F : Fun K "__init__" qual st fI fd) (S : FnScope N ps (defScope st)) (hN : N.length = 2) (hp : ps.length = 2) (T : OexC K C) (no : PySem.W.findIn K (.ref C) f = some none)
    (hder : ∀ (cdv : Value) (A : Around) (outer : List Env) (s : Shared) (H : Hp) (E : XK),
      PSs (cxOf CX0 P w K mg base N qual (defScope st) fI cdv A outer s H E).nox (defBody st) (tSeq (tDrop (tVeI K (tCons (tVar 0) (tCons (tC (.str m)) tNil)))) (tOst K f (tVar 0) (tVar 1)))) :
    FnOk P w K mg base CX0 (k + 1) fI fd ps (spI C f) := by
  refine F.ok S (fun vs H Q E h => ?_) fun cdv A outer s H vs Q E hr h => ⟨_, hder cdv A outer s H E, ?_⟩
  · obtain ⟨a, y, rfl, _⟩ := h
    rw [hp]; rfl
  · obtain ⟨a, y, rfl, ha, q⟩ := h
    have e0 : L2.start N [V.ref a, y] = [some (.ref a), some y] := by
      unfold L2.start
      rw [hN]
      rfl
    rw [e0]
    refine ⟨.ref a, rfl, ⟨a, C, [.str m], rfl, by simp, T, ha, ?_⟩⟩
    exact ⟨y, rfl, .ref a, rfl, a, C, rfl, T, no, .inl ⟨ha, fun dx h1 h2 => q dx h1 h2⟩⟩
end
theorem ap_gRaiseI (RX : XW) (C : Addr) (f : Str) (fr : FA) {R : DEnds} {ρ : DEnv} {O : Ow} : gRaiseI RX C f fr R ρ O = fr ρ O fun ds O1 => ∃ d, ds = [d] ∧ RX (.ref C) (some [(f, d)]) ρ O1 := rfl
end Kf
/-! Dl28: sorted() of a list of things that compare. -/
namespace Kf
open PySem PySem.Spec L2
open PyProof.Rows hiding St
open PySem.W (EachIs)
variable {M : MX}
section
variable {X : Cx}
end
/-! ### the order -/
end Kf
/-! Dl29: text.replace, where a token is out. -/
namespace Kf
open PySem PySem.Spec L2
open PyProof.Rows hiding St
variable {M : MX}
section
variable {X : Cx} {e a b : Expr} {es : List Expr} {fe fa fb : FE} {fr : FA} {st : Stmt} {rest : List Stmt} {g u : GS} {pos : Pos} {ft : FT}
end
/-! ### replace -/
open PySem.Builtin.Str in
open PySem.Builtin PySem.Builtin.Str in
section
variable {X : Cx} {o : Expr} {to : TE} {y z : Str} {i j k : Nat} {c0 c1 c2 apos pos : Pos} {fo : FE}
end
end Kf
set_option maxHeartbeats 4000000
/-! Dl30: set(xs) of a list or a tuple of texts; sorted(set(xs)). -/
namespace Kf
namespace Stx
open PySem PySem.Spec PySem.Froz L2
open PyProof.Rows hiding St
def putT (l : List Str) (k : Str) : List Str := if k ∈ l then l else k :: l
/-- at a lies a set of just the texts l, which can be walked -/
structure Has (P : Program) (w : World) (h : Heap) (a : Addr) (D : SD) (l : List Str) : Prop where
  obj : h.get? a = some (sObj "set" D)
  ok : TxOk P w D l
  ris : Ris D.2.2.place.toList
  led : w.params.followText "set-order" = true ∨ D.2.2.led = true
  nd : l.Nodup
theorem put_nodup {l : List Str} {k : Str} (h : l.Nodup) : (putT l k).Nodup := by
  unfold putT; split
  · exact h
  · rename_i c; exact List.nodup_cons.mpr ⟨c, h⟩
theorem put_len {l : List Str} {k : Str} : (putT l k).length ≤ l.length + 1 := by
  unfold putT; split <;> simp
theorem ris_tail {ep : Nat} {es : Array (Int × Value)} {t : SetTable} {b : Bool} (r : Ris t.place.toList) : Ris (tailTx ep es t b).2.2.place.toList := by
  unfold tailTx; split
  · exact relayAll_ris _ _ _
  · exact r
theorem led_tail {ep : Nat} {es : Array (Int × Value)} {t : SetTable} {b : Bool} : (tailTx ep es t b).2.2.led = t.led := by
  unfold tailTx; split
  · exact relayAll_led _ _ _
  · rfl
theorem ris_addTx {h : Int} {v : Value} {D : SD} (r : Ris D.2.2.place.toList) : Ris (addTx h v D).2.2.place.toList := by
  have r1 := layNew_ris D.2.2 D.1 h v r
  refine ris_tail ?_
  split <;> exact r1
theorem led_addTx {h : Int} {v : Value} {D : SD} : (addTx h v D).2.2.led = D.2.2.led := by
  have r1 := layNew_led D.2.2 D.1 h v
  refine led_tail.trans ?_
  split <;> exact r1
section
variable {P : Program} {w : World} {A : Around} {E : Value → Shared → Prop} {s : Shared} {a : Addr} {D : SD} {l : List Str} {k : Str} {u : Tok}
theorem Has.keep {h h' : Heap} (T : Has P w h a D l) (e : ∀ o, h.get? a = some o → h'.get? a = some o) : Has P w h' a D l := ⟨e _ T.obj, T.ok, T.ris, T.led, T.nd⟩
/-- a text that is in already -/
theorem Has.old {Q : Bool → Shared → Prop} (T : Has P w s.heap a D l) (hk : k ∈ l) (hb : l.length < scanBound) (q : Q false s) : wpAny (model P w) A (setAddHashed a (.str k u) (hashStr w k)) Q E s := by
  obtain ⟨es, ep, t⟩ := D
  have n1 : es.size < scanBound := by have := T.ok.sz; simp only at this; omega
  obtain ⟨e, he, hp⟩ := (T.ok.mem k).mp hk
  unfold setAddHashed setAddHashedIn
  apply wpAny_holding
  apply wpAny_bind
  refine wpAny_setState_of T.obj rfl T.ok.fit ?_
  simp only [byScan_of (x := Value.str k u) (knd := strKind P w) rfl n1 T.ok.el, ↓reduceIte]
  unfold setAddByScan
  apply wpAny_bind
  apply wpAny_bind
  apply wpAny_rule
  refine wpAny_bind (wpAny_setScan_of (k := k) (is_str k u) T.obj rfl T.ok.fit T.ok.el ?_)
  cases hr : List.findIdx? (fun e => (strKind P w).is k e.2) es.toList with
  | none =>
    have := List.findIdx?_eq_none_iff.mp hr e he
    rw [hp] at this; cases this
  | some j => exact wpAny_pure (wpAny_pure q)
theorem Has.add {Q : Bool → Shared → Prop} (T : Has P w s.heap a D l) (hb : l.length + 1 < scanBound)
    (q : ∀ b h' D', Heap.SameBut a s.heap h' → Has P w h' a D' (putT l k) → Q b { s with heap := h' }) : wpAny (model P w) A (setAddHashed a (.str k u) (hashStr w k)) Q E s := by
  by_cases c : k ∈ l
  · refine T.old c (by omega) ?_
    have := q false s.heap D (.refl a s.heap) (by rw [show putT l k = l from if_pos c]; exact T)
    exact this
  · refine add_x T.obj T.ok c hb (q true _ _ (.update s.heap a _) ⟨get_upd _ T.obj rfl, ?_, ris_addTx T.ris, T.led.imp id fun z => led_addTx.trans z, put_nodup T.nd⟩)
    rw [show putT l k = k :: l from if_neg c]
    exact add_ok u T.ok
/-- the loop of set.update -/
theorem Has.loop {I : Addr} {fp wr : List Addr} {G : Array GenState → Array GenState → Prop} {n : Nat} {Pv : Nat → Value → Prop} {St : Nat → Shared → Prop} {R : Result → Shared → Prop} {xs : List Str}
    (W : WalksS P w A.in1 I fp wr G n Pv St) (hf : a ∉ fp) (hn : n = xs.length) (hv : ∀ i v, Pv i v → ∃ x t, xs[i]? = some x ∧ v = .str x t) (hz : xs.length + 1 < scanBound) :
    ∀ (r : List Str) (i : Nat) (s : Shared) (D : SD) (l : List Str), xs.drop i = r → i ≤ n → St i s → Has P w s.heap a D l → l.length ≤ i →
      (∀ s' D', Moved (a :: wr) G s s' → Has P w s'.heap a D' (r.foldl putT l) → R (.ok (.ret .none)) s') → codeAny (model P w) A (.builtin "set.update.loop" ⟨[.ref a, .ref I], []⟩) R s
  | [], i, s, D, l, hd, hi, hst, T, hl, hR => by
    have e : i = n := by
      have := congrArg List.length hd
      rw [List.length_drop, List.length_nil] at this
      omega
    subst e
    apply codeAny_builtin F.entry_set_update_loop
    rw [Around.under_plainId F.plain_set_update_loop]
    apply wpAny_bind (m := pyNext (.ref I))
    refine W.done s _ _ hst fun s' m => wpAny_pure (hR s' D ⟨fun b o hb e => m.heap b o (fun z => hb (List.mem_cons_of_mem _ z)) e, m.gens, m.drawn, m.os, m.toks⟩ (T.keep fun o e => m.heap a o (fun z => hf (W.sub _ z)) e))
  | x :: r, i, s, D, l, hd, hi, hst, T, hl, hR => by
    have hx : xs[i]? = some x := by rw [← List.head?_drop, hd]; rfl
    have hin : i < n := by rw [hn]; exact (List.getElem?_eq_some_iff.mp hx).1
    have hd' : xs.drop (i + 1) = r := by rw [← List.drop_drop, hd]; rfl
    apply codeAny_builtin F.entry_set_update_loop
    rw [Around.under_plainId F.plain_set_update_loop]
    apply wpAny_bind (m := pyNext (.ref I))
    refine W.item i s _ _ hin hst fun v s' p hst' m => ?_
    obtain ⟨y, t, hy, rfl⟩ := hv i v p
    obtain rfl : x = y := Option.some.inj (hx.symm.trans hy)
    have T' := T.keep fun o e => m.heap a o (fun z => hf (W.sub _ z)) e
    apply wpAny_bind (m := holding [Value.str x t] (setAdd a (.str x t)))
    apply wpAny_holding
    unfold setAdd
    apply wpAny_holding
    apply wpAny_bind
    apply (strKind P w).pyHash (is_str x t)
    refine Has.add (s := { s' with toks := s'.toks + 1 }) T' (by omega) fun b h' D' sb T2 => wpAny_pure ⟨plainId_quiet F.plain_set_update_loop _, ?_⟩
    refine Has.loop W hf hn hv hz r (i + 1) _ D' (putT l x) hd' hin (W.frame _ s' _ _ hst' (Nat.le_succ _) fun b hb o e => ?_) T2 (Nat.le_trans put_len (by omega)) fun s2 D2 m2 T3 => ?_
    · rw [sb.2 b fun z => hf (z ▸ hb)]; exact e
    · refine hR s2 D2 ⟨fun b o hb e => m2.heap b o hb ?_, W.gtrans _ _ _ m.gens m2.gens, m2.drawn.trans m.drawn, m2.os.trans m.os, Nat.le_trans m.toks (Nat.le_trans (Nat.le_succ _) m2.toks)⟩ T3
      show h'.get? b = some o
      rw [sb.2 b fun z => hb (z ▸ List.mem_cons_self)]
      exact m.heap b o (fun z => hb (List.mem_cons_of_mem _ z)) e
end
end Stx
end Kf
set_option maxHeartbeats 4000000
/-! Dl31: the call set(xs); sorted(set(xs)). -/
namespace Kf
namespace Stx
open PySem PySem.Spec PySem.Froz L2
open PyProof.Rows hiding St
section
variable {P : Program} {w : World} {A : Around} {E : Value → Shared → Prop} {s : Shared}
/-- the new set, as it is laid -/
abbrev fresh (w : World) : Obj := { cls := .type "set", dict := none, data := .set #[] 0 (.fresh 0 0 (!w.params.followText "set-order")) }
theorem new_size {h : Heap} {o : Obj} : (h.push o).objs.size = h.objs.size + 1 := Heap.size_push ..
end
end Stx
end Kf
set_option maxHeartbeats 4000000
/-! Dl32: sorted(set(xs)). -/
namespace Kf
namespace Stx
open PySem PySem.Spec PySem.Froz L2
open PyProof.Rows hiding St
def txOf (v : Value) : Str := match v with
  | .str x _ => x
  | _ => ⟨#[]⟩
theorem perm_of_sub : ∀ {l m : List Str}, l.Nodup → (∀ x ∈ l, x ∈ m) → m.length ≤ l.length → m.Perm l
  | [], m, _, _, h => by
    have : m = [] := List.eq_nil_of_length_eq_zero (Nat.le_zero.mp h)
    rw [this]
  | x :: l, m, hn, hs, h => by
    obtain ⟨h1, h2⟩ := List.nodup_cons.mp hn
    have hx := hs x List.mem_cons_self
    have p := List.perm_cons_erase hx
    refine p.trans (.cons x (perm_of_sub h2 (fun y hy => ?_) ?_))
    · have := p.mem_iff.mp (hs y (List.mem_cons_of_mem _ hy))
      rcases List.mem_cons.mp this with rfl | z
      · exact absurd hy h1
      · exact z
    · have := p.length_eq
      rw [List.length_cons] at this h
      omega
theorem strs_tx : ∀ (vs : List Value), (∀ v ∈ vs, ∃ x t, v = Value.str x t) → StrsAre vs (vs.map txOf)
  | [], _ => .nil
  | v :: vs, h => by
    obtain ⟨x, t, rfl⟩ := h v List.mem_cons_self
    exact .cons x t (strs_tx vs fun u hu => h u (List.mem_cons_of_mem _ hu))
section
variable {P : Program} {w : World} {A : Around} {E : Value → Shared → Prop} {s : Shared} {a : Addr} {D : SD} {l : List Str}
theorem el_str {es : List (Int × Value)} (h : ElemsOf (strKind P w) es) : ∀ v ∈ es.map (·.2), ∃ x t, v = Value.str x t := fun v hv => by
  obtain ⟨e, he, rfl⟩ := List.mem_map.mp hv
  obtain ⟨⟨k, hk, _⟩, _⟩ := h e he
  obtain ⟨t, ht⟩ := Value.isStrOf_shape hk
  exact ⟨k, t, ht⟩
theorem Has.keys (T : Has P w s.heap a D l) : ((D.1.toList.map (·.2)).map txOf).Perm l := by
  refine perm_of_sub T.nd (fun x hx => ?_) ?_
  · obtain ⟨e, he, hp⟩ := (T.ok.mem x).mp hx
    obtain ⟨t, ht⟩ := Value.isStrOf_shape hp
    exact List.mem_map.mpr ⟨e.2, List.mem_map.mpr ⟨e, he, rfl⟩, by rw [ht]; rfl⟩
  · rw [List.length_map, List.length_map, Array.length_toList, T.ok.sz]; exact Nat.le_refl _
/-- sorted(found) -/
theorem Has.sorted {Q : Value → Shared → Prop} (T : Has P w s.heap a D l) (hh : A.handled = none) (hz : l.length < scanBound) (hq : l.length ≤ sizeLine)
    (q : ∀ s' p (out : Array Value) (c : Nat) (ys : List Str), (∀ b o, s.heap.get? b = some o → s'.heap.get? b = some o) → s'.gens = s.gens → s'.os = s.os → s.heap.objs.size ≤ p →
      s'.heap.get? p = some (seqObj "list" out c) → StrsAre out.toList ys → ys.Perm l → sortedS ys = true → Q (.ref p) s') :
    wpAny (model P w) A (call (.builtin "sorted") [.ref a]) Q E s := by
  obtain ⟨es, ep, t⟩ := D
  have e1 : es.size = l.length := T.ok.sz
  apply Calls.call_function_entry kind_sorted plain_sorted entry_sorted (args_sorted1 _)
  unfold Builtin.«sorted»
  apply wpAny_bind (m := checkCount "sorted" 1 1 _)
  apply wpAny_pure
  apply wpAny_bind
  refine collect_set (A := A.in1) hh ⟨_, T.obj, rfl, rfl⟩ T.ok.fit (by rw [e1]; exact hz) T.ris T.led fun s1 vs k1 k2 k3 k4 pm => ?_
  have hS : StrsAre vs (vs.map txOf) := strs_tx vs fun v hv => el_str T.ok.el v (pm.mem_iff.mp hv)
  have hp : (vs.map txOf).Perm l := (pm.map txOf).trans T.keys
  have hl : vs.length ≤ sizeLine := by have := hp.length_eq; rw [List.length_map] at this; omega
  apply wpAny_bind
  refine wpAny_newList ?_ hl
  have ho : (s1.heap.push (seqObj "list" vs.toArray 0)).get? s1.heap.objs.size = some (seqObj "list" vs.toArray 0) := Heap.get?_push_size _ rfl
  apply wpAny_bind
  apply wpAny_holding
  refine wpAny_call_entry slot_list_sort ⟨_, ho, rfl⟩ entry_list_sort (list_sort_treeKAny strKind_oneLt ho hS.keysOf (fun v₁ v₂ rest e => keyKind_strs (by rw [← e]; exact hS)) hl fun st' p1 p2 => ⟨_, rfl, ?_⟩) (args_list_sort _)
  obtain ⟨ys, y1, y2, y3⟩ := sorted_out_str hS p1 p2
  obtain ⟨c, hc⟩ := sortedHeap_at (vs := vs) (out := (arrOf st').map (·.2)) ho
  refine wpAny_pure ⟨_, rfl, q _ s1.heap.objs.size _ c ys (fun b u e => ?_) k3 k4 k2 hc y1 (y2.trans hp) y3⟩
  have z1 := k1 b u e
  have z2 := Heap.lt_size z1
  show (sortedHeap (s1.heap.push (seqObj "list" vs.toArray 0)) s1.heap.objs.size vs ((arrOf st').map (·.2))).get? b = some u
  rw [sortedHeap_old (Nat.ne_of_lt z2) (by rw [new_size]; exact Nat.lt_succ_of_lt z2)]
  exact Heap.get?_push_of_some _ z1
end
section
variable {X : Cx} {a : Expr} {te : TE} {p p2 q pos : Pos}
end
end Stx
end Kf
namespace Kf
open PySem PySem.Spec L2
open PyProof.Rows hiding St
/-! ### comprehensions over a list of things -/
section
variable {p : Pat} {ft : FT} {fe : FE} {ρ : DEnv} {O : Ow} {α β : Type}
theorem lcA_map (f g : α → D) : ∀ (xs : List α) (acc : List D) (Q : List D → Ow → Prop), acc.length + xs.length ≤ sizeLine →
    (∀ x ∈ xs, ∀ Q' : VD, Q' (g x) O → patGet (patD p (f x) ρ) fun ρ1 => fe ρ1 O Q') → Q (acc ++ xs.map g) O → lcD p fYes fe ρ (xs.map f) acc O Q
  | [], acc, Q, _, _, q => by simpa [lcD] using q
  | x :: xs, acc, Q, hl, hs, q => by
    rw [List.length_cons] at hl
    have z := hs x List.mem_cons_self (fun e O2 => acc.length < sizeLine ∧ lcD p fYes fe ρ (xs.map f) (acc ++ [e]) O2 Q) ⟨by omega, lcA_map f g xs _ Q (by rw [List.length_append, List.length_singleton]; omega) (fun d' hd => hs d' (List.mem_cons_of_mem _ hd)) (by simpa using q)⟩
    rw [List.map_cons]
    unfold lcD
    simpa [fYes] using z
theorem lcA_filter (b : α → Bool) (f g : α → D) : ∀ (xs : List α) (acc : List D) (Q : List D → Ow → Prop), acc.length + xs.length ≤ sizeLine →
    (∀ x ∈ xs, ∀ (Q1 : VD) (Q2 : Ow → Prop), (b x = true → Q1 (g x) O) → (b x = false → Q2 O) → patGet (patD p (f x) ρ) fun ρ1 => ft ρ1 O fun k O1 => if k = true then fe ρ1 O1 Q1 else Q2 O1) → Q (acc ++ (xs.filter b).map g) O → lcD p ft fe ρ (xs.map f) acc O Q
  | [], acc, Q, _, _, q => by simpa [lcD] using q
  | x :: xs, acc, Q, hl, hs, q => by
    rw [List.length_cons] at hl
    have z := hs x List.mem_cons_self (fun e O2 => acc.length < sizeLine ∧ lcD p ft fe ρ (xs.map f) (acc ++ [e]) O2 Q) (fun O2 => lcD p ft fe ρ (xs.map f) acc O2 Q)
      (fun hb => ⟨by omega, lcA_filter b f g xs _ Q (by rw [List.length_append, List.length_singleton]; omega) (fun d' hd => hs d' (List.mem_cons_of_mem _ hd)) (by simpa [List.filter_cons, hb] using q)⟩)
      (fun hb => lcA_filter b f g xs _ Q (by omega) (fun d' hd => hs d' (List.mem_cons_of_mem _ hd)) (by simpa [List.filter_cons, hb] using q))
    rw [List.map_cons]
    unfold lcD
    exact z
end
/-- a walk over a map, by places -/
theorem forA_ix {p : Pat} {gb : GS} {R : DEnds} {α : Type} (f : α → D) (I : List α → List α → DEnv → Ow → Prop) : ∀ (xs pre : List α) (ρ : DEnv) (O : Ow), I pre xs ρ O → (∀ ρ O, I (pre ++ xs) [] ρ O → R.nx ρ O) →
    (∀ pre' x rest, pre ++ xs = pre' ++ x :: rest → ∀ ρ O, I pre' (x :: rest) ρ O → ∀ N : DEnv → Ow → Prop, (∀ ρ O, I (pre' ++ [x]) rest ρ O → N ρ O) → patGet (patD p (f x) ρ) fun ρ1 => gb { R with nx := N, ct := N, bk := R.nx } ρ1 O) → forD p gb R (xs.map f) ρ O
  | [], pre, ρ, O, h, hd, _ => hd ρ O (by rw [List.append_nil]; exact h)
  | x :: xs, pre, ρ, O, h, hd, hs => by
    have q := hs pre x xs rfl ρ O h (forD p gb R (xs.map f)) fun ρ' O' h' => by
      refine forA_ix f I xs (pre ++ [x]) ρ' O' h' (fun ρ O z => hd ρ O ?_) fun pre' y rest e => hs pre' y rest ?_
      · simpa using z
      · rw [← e]; simp
    rw [List.map_cons]
    unfold forD
    exact q
end Kf
namespace Kf
open PySem PySem.Spec L2
open PyProof.Rows hiding St
section
variable {P : Program} {w : World} {K : PySem.W.Frag} {mg : Str → Option Value} {base : Heap} {CX : CXT} {f : Addr} {fd : FuncData} {ps : List Str} {k k' : Nat}
theorem fnUp {sp : Sp} (h : FnOk P w K mg base CX k f fd ps sp) (hk : k ≤ k') : FnOk P w K mg base CX k' f fd ps sp :=
  ⟨h.1, fun A outer s H args us vs Q E a b c d e => h.2 A outer s H args us vs Q E (a.mono hk) b c d e⟩
end
end Kf
namespace Kf
open PySem PySem.Spec L2
open PyProof.Rows hiding St
theorem gSeq_step {g u : GS} {R : DEnds} {ρ : DEnv} {O : Ow} (h : g { R with nx := u R } ρ O) : gSeq g u R ρ O := h
theorem rIx_any {xs : List D} {i : Int} {O : Ow} {Q : VD} (h0 : 0 ≤ i) (h1 : i < xs.length) (h : ∀ v ∈ xs, Q v O) : rIxD (.lst xs) (.int i) O Q := by
  obtain ⟨v, e1, e2⟩ := atI_some h0 h1
  rw [rIx_l e1]
  exact h v e2
end Kf
namespace Kf
open PySem PySem.Spec L2
open PyProof.Rows hiding St
local macro_rules | `(tactic| walk_at "kf") => `(tactic| simp (config := { failIfUnchanged := false }) only [startD, gSeq, gIf, gRet, gNext, gSet, gAsg, gDrop, gRetF, gRetN, gFor, gSetIx, gBreak, fTest, fOp, fVar, envGet_s, patGet_s, fC, fCB, fCons, fNil, fCall, fAnd, fOr, fNot, fAndV, fOrV, fNotV, fIf, fTup, fLst, fLstO, fChain, fUn, fBM, fBM0, fPool, rPool_i, fSl, fPart, fNoPart, asI_i, rSl_l, fiRng1, fiRng2, fiList, fiTup, fiStr, fiEnum, fiZip, fiRev, asL_l, asT_t, asSg_s, asR1_i, asR2_i, asL1_l, asL2_l, fLc, fLcO, fYes, wipeD, lcD, isi_i_int, isi_i_bool, isi_i_str, isi_i_tuple, isi_i_list, isi_i_dict, isi_b_int, isi_b_bool, isi_b_str, isi_b_tuple, isi_b_list, isi_b_dict, isi_s_int, isi_s_bool, isi_s_str, isi_s_tuple, isi_s_list, isi_s_dict, isi_t_int, isi_t_bool, isi_t_str, isi_t_tuple, isi_t_list, isi_t_dict, isi_l_int, isi_l_bool, isi_l_str, isi_l_tuple, isi_l_list, isi_l_dict, isi_n_int, isi_n_bool, isi_n_str, isi_n_tuple, isi_n_list, isi_n_dict, isi_d_int, isi_d_bool, isi_d_str, isi_d_tuple, isi_d_list, isi_d_dict,
  deref_tup, deref_lst, deref_int, deref_str, deref_bl, deref_non, deref_scr, rLt_i, rLt_s, rLe_i, rLe_s, rInts_i, rInts0_i, rAdd_i, rAdd_s, rAdd_l, rAdd_t, rCatO_l, rNeg_i, rLen_t, rLen_l, rLen_c, rLen_s, rMax_i, rMin_i, rInt_i, rInt_b, rDivmod_i, gAug, rStr_i, rList_l, rList_t, rListO_l, rListO_t, rTup_l, rTup_t,
  rIx_t0, rIx_t1, rIx_t2, rIx_t3, rIx_l0, rIx_l1, rIx_l2, rIsN_x, isNon_t, isNon_n, isNon_i, isNon_s, isNon_l, rEq_i, rEq_b, rEq_i2, rEq_b2, rJoin_m, rSplit_s, tyOk_l, tyOk_s, patD_nm, patD_tp, patDs_nil, patDs_cons, Option.bind_some, notX, notX',
  List.map_cons, List.map_nil, List.length_cons, List.length_nil, List.cons_append, List.nil_append, List.append_nil, List.replicate, List.getElem?_cons_zero, List.getElem?_cons_succ, List.set_cons_zero, List.set_cons_succ, updO_same, updO_updO,
  Nat.reduceSub, Nat.reduceAdd, Nat.reduceLeDiff, Nat.zero_add, Int.cast_ofNat_Int, Int.natCast_zero, Int.natCast_one, Int.reduceLT, Int.reduceLE, Int.reduceEq, Int.reduceAdd, Int.reduceSub, Int.reduceNeg, decide_true, decide_false, if_true, if_false, Bool.false_eq_true, eq_self, reduceIte, Bool.true_eq_false, decide_eq_true_eq, Bool.not_true, Bool.not_false, Bool.not_eq_true', decide_eq_false_iff_not, exists_eq_left', exists_eq_left, D.bl.injEq, true_and, and_true])
/-! ### how many kinds: the list of counts, grown by one -/
def nxt (xs : List Int) : Int := 2 * ((List.range (xs.length - 1)).map fun i => xs.getD (i + 1) 0 * xs.getD (xs.length - (i + 1)) 0).sum
def cl (m : Int) : Nat → List Int
  | 0 => [0, m + 1]
  | k + 1 => cl m k ++ [nxt (cl m k)]
/-- marks are one to four -/
def Small (m : Int) : Prop := m = 1 ∨ m = 2 ∨ m = 3 ∨ m = 4
/-- a text of small letters, by their places -/
def txt (ps : List Int) : Str := ⟨(ps.map fun n => 97 + n.toNat).toArray⟩
def Lets (ps : List Int) : Prop := ∀ n ∈ ps, 0 ≤ n ∧ n < 26
def IsMk (t : Str) : Prop := ∃ ps, t = txt ps ∧ 1 ≤ ps.length ∧ ps.length ≤ 6 ∧ Lets ps
/-- marks that are drawn: one to four unlike ones -/
def MarkL (ts : List Str) : Prop := 1 ≤ ts.length ∧ ts.length ≤ 4 ∧ ts.Nodup ∧ ∀ t ∈ ts, IsMk t
theorem IsMk.ok {t : Str} (h : IsMk t) : PyData.strOk t = true := by
  obtain ⟨ps, rfl, _, _, h⟩ := h
  unfold PyData.strOk txt
  simp only [List.all_toArray, List.all_eq_true, List.mem_map, decide_eq_true_eq]
  rintro c ⟨n, hn, rfl⟩
  have := h n hn
  omega
abbrev abc : Str := "abcdefghijklmnopqrstuvwxyz"
/-! ### the catalogue: all kinds of so many leaves, in order -/
def prs (xs ys : List Kd) : List Kd := (xs.flatMap fun a => ys.map (Kd.to a)) ++ (xs.flatMap fun a => ys.map (Kd.both a))
def nxK (ls : List (List Kd)) : List Kd := (List.range (ls.length - 1)).flatMap fun i => prs (ls.getD (i + 1) []) (ls.getD (ls.length - (i + 1)) [])
def al (ms : List Str) : Nat → List (List Kd)
  | 0 => [[], ms.map .mk ++ [.one]]
  | k + 1 => al ms k ++ [nxK (al ms k)]
def A (ms : List Str) (n : Nat) : List Kd := (al ms 9).getD n []
def pre {α : Type} (f : Nat → List α) (i : Nat) : Nat := ((List.range i).map fun t => (f t).length).sum
abbrev blkF (ms : List Str) (n : Nat) : Nat → List Kd := fun i => prs (A ms (i + 1)) (A ms (n - (i + 1)))
/-! the number of a kind -/
def Kd.over (ms : List Str) : Kd → Prop
  | .mk m => m ∈ ms
  | .one => True
  | .to a b => a.over ms ∧ b.over ms
  | .both a b => a.over ms ∧ b.over ms
def place (ms : List Str) : Kd → Nat
  | .mk m => ms.idxOf m
  | .one => ms.length
  | .to a b => pre (blkF ms (a.leaves + b.leaves)) (a.leaves - 1) + place ms a * (A ms b.leaves).length + place ms b
  | .both a b => pre (blkF ms (a.leaves + b.leaves)) (a.leaves - 1) + (A ms a.leaves).length * (A ms b.leaves).length + place ms a * (A ms b.leaves).length + place ms b
/-! ### what the catalogue's defs are asked and answer -/
theorem Small.mem {m : Int} (h : Small m) : m ∈ [(1 : Int), 2, 3, 4] := by rcases h with rfl | rfl | rfl | rfl <;> simp
theorem over_ok {ms : List Str} (h : ∀ t ∈ ms, PyData.strOk t = true) : ∀ k : Kd, k.over ms → k.ok = true
  | .mk m, ho => h m ho
  | .one, _ => rfl
  | .to a b, ho => by simp [Kd.ok, over_ok h a ho.1, over_ok h b ho.2]
  | .both a b, ho => by simp [Kd.ok, over_ok h a ho.1, over_ok h b ho.2]
/-! ### the words of kinds -/
def Kd.marks : Kd → List Str
  | .mk m => [m]
  | .one => []
  | .to a b => a.marks ++ b.marks
  | .both a b => a.marks ++ b.marks
end Kf
namespace Kf
open PySem PySem.Spec L2
open PyProof.Rows hiding St
/-! ### trees of worlds -/
inductive Tr where
  | nd (ms : List Str) (ts : List Tr)
def Tr.ms : Tr → List Str
  | .nd ms _ => ms
mutual
def subs : Tr → List Tr
  | .nd ms ts => .nd ms ts :: subss ts
def subss : List Tr → List Tr
  | [] => []
  | t :: ts => subs t ++ subss ts
end
mutual
def Tr.dep : Tr → Nat
  | .nd _ ts => deps ts + 1
def deps : List Tr → Nat
  | [] => 0
  | t :: ts => max t.dep (deps ts)
end
/-! what put_worlds writes: marks, and the place behind the last one above -/
mutual
def ws : Tr → Nat → List (List Str × Nat)
  | .nd ms ts, n => (ms, n + (subs (.nd ms ts)).length) :: wss ts (n + 1)
def wss : List Tr → Nat → List (List Str × Nat)
  | [], _ => []
  | t :: ts, n => ws t n ++ wss ts (n + (subs t).length)
end
/-! ### what holds -/
def forces : Kd → Tr → Bool
  | .mk m, t => decide (m ∈ t.ms)
  | .one, _ => true
  | .both a b, t => forces a t && forces b t
  | .to a b, t => (subs t).all fun s => !forces a s || forces b s
mutual
def MonoT : Tr → Prop
  | .nd ms ts => MonoTs ms ts
def MonoTs : List Str → List Tr → Prop
  | _, [] => True
  | ms, t :: ts => (∀ m ∈ ms, m ∈ t.ms) ∧ MonoT t ∧ MonoTs ms ts
end
/-! ### the search for what is amiss -/
/-- the first place from i on where something is amiss -/
def fb (bad : List Bool) (i : Nat) : Nat := i + (bad.drop i).findIdx id
def tl (k : Kd) (t : Tr) : List D := (subs t).map fun s => D.bl (forces k s)
def TrOk (t : Tr) : Prop := (subs t).length ≤ 1000 ∧ ∀ s ∈ subs t, ∀ m ∈ s.ms, PyData.strOk m = true
end Kf
namespace Kf
open PySem PySem.Spec L2
open PyProof.Rows hiding St
end Kf
namespace Kf
open PySem PySem.Spec L2
open PyProof.Rows hiding St
/-! ### sorted texts -/
/-- strictly rising -/
def Up (l : List Str) : Prop := l.Pairwise fun a b => a.cps.toList < b.cps.toList
theorem Up.sub {l l' : List Str} (h : Up l) (s : l'.Sublist l) : Up l' := List.Pairwise.sublist s h
/-! ### the law's trees -/
structure GoodT (ms : List Str) (had : List Str) (r : Nat) (t : Tr) : Prop where
  mono : MonoT t
  had : ∀ m ∈ had, m ∈ t.ms
  over : ∀ s ∈ subs t, s.ms.Sublist ms
  size : (subs t).length < 2 ^ (r + 1)
  dep : t.dep ≤ r + 1
theorem GoodT.ok {ms ms' had : List Str} {r : Nat} {t : Tr} (h : GoodT ms' had r t) (hp : ms'.Perm ms) (hm : MarkL ms) (hr : r ≤ 8) : TrOk t := by
  refine ⟨?_, fun s hs m hm' => (hm.2.2.2 m (hp.mem_iff.mp ((h.over s hs).mem hm'))).ok⟩
  have := h.size
  have : 2 ^ (r + 1) ≤ 2 ^ 9 := Nat.pow_le_pow_right (by decide) (by omega)
  omega
end Kf
/-! Dl33: sorted(set(xs)) over data; == of a thing and one alike, empty dicts within. -/
namespace Kf
open PySem PySem.Spec L2
open PyProof.Rows hiding St
variable {M : MX}
/-! ### sorted(set(xs)) -/
section
variable {X : Cx} {a : Expr} {fa : FE} {p p2 q pos : Pos}
end
/-! ### a thing and one alike -/
section
variable {X : Cx} {pins : List (Addr × Obj)} {σ : St} {H : Hp} {s : Shared}
open SeqAt
end
section
variable {X : Cx} {pins : List (Addr × Obj)} {σ : St} {H : Hp} {s : Shared}
open SeqAt
end
section
variable {X : Cx}
end
/-! what has no owned list in it is read as it is -/
end Kf
/-! Dl34: is True, is False, is not .. of a truth. -/
namespace Kf
open PySem PySem.Spec L2
open PyProof.Rows hiding St
variable {M : MX}
section
variable {X : Cx}
end
end Kf
/-! Dl35: walks along lists that may be owned and stay as they are: for, comprehensions; zip and enumerate of such. -/
namespace Kf
open PySem PySem.Spec L2
open PyProof.Rows hiding St
variable {M : MX}
abbrev FJ := DEnv → Ow → (List (Addr × List D) → List D → Ow → Prop) → Prop
section
variable {X : Cx} {tg iter l e e2 : Expr} {fl : FE} {fr : FA} {p tpos pos : Pos} {elts : List Expr} {kk : Nat}
/-! ### for -/
end
/-! ### comprehensions -/
section
variable {X : Cx} {elt tg iter : Expr} {ifs : List Expr} {scope : Scope} {own : List (Str × Nat)} {pos : Pos} {fi : FJ} {p : Pat} {ft : FT} {fe : FE}
end
end Kf
/-! Dl36: every seventh thing of a list, xs[::7]. -/
namespace Kf
open PySem PySem.Spec L2
open PyProof.Rows hiding St
variable {M : MX}
section
variable {X : Cx} {e st : Expr} {fa : FE} {te : TE} {tst : TO} {fs : FO} {pos p2 : Pos}
end
end Kf
/-! Dl37: a list of any things compared with the empty list. -/
namespace Kf
open PySem PySem.Spec L2
open PyProof.Rows hiding St
section
variable {X : Cx} {pins : List (Addr × Obj)} {σ : St} {H : Hp} {s : Shared}
open SeqAt
end
section
variable {X : Cx}
end
/-! slices of a tuple, the whole of it too -/
section
variable {X : Cx}
end
end Kf
/-! Dl38: an empty dict is no text; a pair with one in it is in no list of pairs of texts and numbers. -/
namespace Kf
open PySem PySem.Spec L2
open PyProof.Rows hiding St
section
open AutoSeq1 (wpAny_loadPart')
open MeetsSeq SeqAt
variable {A : Around} {s : Shared}
end
section
variable {X : Cx}
open SeqAt
end
end Kf
/-! Dl39: a statement that is read in one of two ways (a walk along a list or a tuple). -/
namespace Kf
open PySem PySem.Spec L2
open PyProof.Rows hiding St
section
variable {X : Cx} {M : MX} {st : Stmt} {g1 g2 : GS}
end
end Kf
/-! Dl40: text.isalpha(). -/
namespace Kf
open PySem PySem.Spec L2
open PyProof.Rows hiding St
section
variable {M : MX} {X : Cx}
end
end Kf
/-! Dl41: a, b = x, y with plain local names. -/
namespace Kf
open PySem PySem.Spec L2
open PyProof.Rows hiding St
def gPar (i j : Nat) (fa : FA) : GS := fun R ρ O => fa ρ O fun ds O1 => match ds with
  | [d, e] => R.nx ((ρ.set i (some d)).set j (some e)) O1
  | _ => False
theorem ap_gPar {i j : Nat} {fa : FA} {R : DEnds} {ρ : DEnv} {O : Ow} : gPar i j fa R ρ O = fa ρ O (fun ds O1 => match ds with | [d, e] => R.nx ((ρ.set i (some d)).set j (some e)) O1 | _ => False) := rfl
section
variable {M : MX} {X : Cx} {pos : Pos}
end
end Kf
/-! Dl42: a list comprehension out of which an exception flies. -/
namespace Kf
open PySem PySem.Spec L2
open PyProof.Rows hiding St
variable {M : MX}

/-! ### the way out of a block -/
theorem passOn_on {α : Type} {M : Model} {A : Around} {E : Value → Shared → Prop} {s : Shared} {ce : Env} {B : Heap} {l : List Env} {a L : Addr} {Z : Obj → Prop} {what : String} {Q : α → Shared → Prop}
    (hf : ce.frame = some L) (hh : HandSPX.HeldZ B l a Z L s.heap) (hE : ∀ h', HandSPX.HeldZ B l a Z L h' → s.heap.UpToSlots h' → E (.ref a) { s with heap := h' }) : wpAny M A (passOn what (.ref a) ce : Sem α) Q E s := by
  obtain ⟨oe, vs, T, oT, ts, q1, q2, q3, q4, q5⟩ := hh.2.2.2
  unfold PySem.passOn
  refine wpAny_bind (wpAny_field q1 q3 q4 ?_)
  rw [if_neg (show ¬ ((Value.ref T == Value.none) = true) by simp)]
  refine wpAny_bind ?_
  rw [hf]
  exact HandSPX.setFlight_onZ hh fun h' k up => wpAny_throw (hE h' k up)

/-- what is wanted where the block ends, the frame told -/
def cpEnd (M : Model) (A : Around) (E : Value → Shared → Prop) (use : Option (Value → Sem Unit)) (Q : Value → Shared → Prop) (acc : Value) (C : Addr) (fr : Option Addr) : Result → Shared → Prop
  | .ok f, s' => compPost M A E use Q acc C (.ok f) s'
  | .error x, s' => ∃ m, s'.heap.Ns C m ∧ ∀ h', Heap.SameBut C s'.heap h' → ∀ ce : Env, ce.frame = fr → wpAny M A (passOn "comprehension.variables-let-go" x ce : Sem Value) (fun _ _ => False) E { s' with heap := h' }
theorem compr_any {M : Model} {A : Around} {E : Value → Shared → Prop} {s : Shared} {env : Env} {e : Expr} {scope : Scope} {pos : Pos} {mk fst : Sem Value} {g : Comprehension} {gs : List Comprehension} {cl : List (Str × Addr)} {use : Option (Value → Sem Unit)} {Q : Value → Shared → Prop}
    (c1 : clausesOf e = g :: gs) (c2 : ∀ x, foldedSetIterable g.iter env x = pure x) (c3 : closureFor scope env = pure cl) (c4 : scope.kind = .function) (c5 : ∀ x ∈ scope.names, x.2 = .local → scope.names.lookup x.1 = some .local)
    (h : wpAny M A fst (fun x s1 => wpAny M A (pyIter x) (fun it s2 => wpAny M A mk (fun acc s3 => wpAny M A (newFunctionEnv scope env.globals cl [] env.qual none .none (some env))
      (fun ce s4 => ce.frame = env.frame ∧ codeAny M A (.compStart e 0 it acc { ce with scope := relabel scope env }) (cpEnd M A E use Q acc ce.locals env.frame) s4) E s3) E s2) E s1) E s) :
    wpAny M A (comprehension e scope env pos mk false fst use) Q E s := by
  unfold comprehension
  rw [c3, c1]
  refine wpAny_bind (wpAny_mono h (fun x s1 k1 => ?_) fun _ _ z => z)
  refine wpAny_bind (wpAny_standAt ?_)
  refine wpAny_bind (wpAny_of_eq (c2 x) ?_)
  refine wpAny_bind (wpAny_holding ?_)
  refine wpAny_mono k1 (fun it s2 k2 => ?_) fun _ _ z => z
  refine wpAny_standIf ?_
  refine wpAny_bind (wpAny_mono k2 (fun acc s3 k3 => ?_) fun _ _ z => z)
  refine wpAny_bind (wpAny_pure ?_)
  refine wpAny_bind (wpAny_mono k3 (fun ce s4 k4 => ?_) fun _ _ z => z)
  obtain ⟨hfr, k4⟩ := k4
  have own : ∀ x ∈ scope.names, x.2 = .local → Env.kindOf { ce with scope := relabel scope env } x.1 = some .local := fun x hx hl => lookup_relabel_local (c5 x hx hl)
  dsimp only
  refine wpAny_holding (wpAny_bind ?_)
  refine wpAny_attempt (wpAny_holding ?_)
  refine wpAny_run (codeAny_mono k4 fun r s5 kr => ?_)
  have mem1 : ∀ x ∈ (scope.names.filter fun x => (x.2 == .local || x.2 == .cell) && x.1 != (".0" : Str)).reverse, x.2 = .local → Env.kindOf { ce with scope := relabel scope env } x.1 = some .local := fun x hx =>
    own x (List.mem_filter.mp (List.mem_reverse.mp hx)).1
  cases r with
  | error x =>
    obtain ⟨m, hn, kr⟩ := kr
    have go := fun (h' : Heap) (sb : Heap.SameBut ce.locals s5.heap h') => kr h' sb { ce with scope := relabel scope env } hfr
    cases use <;>
      exact wpAny_bind (wpAny_holding (wpAny_comp_letGo (cenv := { ce with scope := relabel scope env }) c4 _ s5 m mem1 hn fun h' _ _ sb => wpAny_mono (go h' sb) (fun _ _ z => z.elim) fun _ _ z => z))
  | ok f =>
    cases use with
    | none =>
      obtain ⟨m, hn, kr⟩ := kr
      refine wpAny_bind (wpAny_holding ?_)
      exact wpAny_comp_letGo (cenv := { ce with scope := relabel scope env }) c4 _ s5 m mem1 hn fun h' _ _ sb => wpAny_pure (kr h' sb)
    | some u =>
      refine wpAny_bind (wpAny_rule (wpAny_bind (wpAny_holding ?_)))
      refine wpAny_mono kr (fun _ s6 k6 => ?_) fun _ _ z => z
      obtain ⟨m, hn, k6⟩ := k6
      refine wpAny_bind (wpAny_comp_letGo (cenv := { ce with scope := relabel scope env }) c4 _ s6 m (fun x hx => ?_) hn fun h' _ _ sb => wpAny_pure (k6 h' sb))
      rcases List.mem_append.mp hx with z | z
      · exact mem1 x (List.mem_of_mem_drop z)
      · exact mem1 x (List.mem_of_mem_take z)

/-- frames, where another thing than they changes -/
theorem frames_but {B h h' : Heap} {C : Addr} (k : ∀ b, b ≠ C → h'.get? b = h.get? b) : ∀ l : List Env, (∀ b ∈ frs l, b ≠ C) → h.FunFrames B l → h'.FunFrames B l
  | [], _, _ => trivial
  | e :: l, hne, hl => by
    obtain ⟨p1, ⟨L, o, p2, p3, p4, p5⟩, p6⟩ := hl
    have sub : ∀ b ∈ frs l, b ∈ frs (e :: l) := fun b hb => by
      obtain ⟨y, y1, y2⟩ := List.mem_filterMap.mp hb
      exact List.mem_filterMap.mpr ⟨y, List.mem_cons_of_mem _ y1, y2⟩
    refine ⟨p1, ⟨L, o, p2, p3, ?_, p5⟩, frames_but k l (fun b hb => hne b (sub b hb)) p6⟩
    rw [k L (hne L (List.mem_filterMap.mpr ⟨e, List.mem_cons_self, p2⟩))]
    exact p4
/-- .. and over a lesser ground -/
theorem frames_less {B B' h : Heap} (k : ∀ b, B.get? b = none → B'.get? b = none) : ∀ l : List Env, h.FunFrames B l → h.FunFrames B' l
  | [], _ => trivial
  | e :: l, hl => by
    obtain ⟨p1, ⟨L, o, p2, p3, p4, p5⟩, p6⟩ := hl
    exact ⟨p1, ⟨L, o, p2, k L p3, p4, p5⟩, frames_less k l p6⟩

/-- the context of a block that may be left by an exception -/
abbrev blkX (X : Cx) (s : Shared) (H : Hp) (scope : Scope) (ce : Env) (fp : List Addr) (xe : Value → Shared → Prop) : Cx := (X.blk s H scope ce fp).tr [] xe
abbrev outX (X : Cx) (ce : Env) (use : Option (Value → Sem Unit)) (Qf : Value → Shared → Prop) (D : Addr) (C : Addr) : Value → Shared → Prop :=
  notedBy (model X.prog X.w) X.A ce fun e s' => cpEnd (model X.prog X.w) X.A X.xe use Qf (.ref D) C X.env.frame (.error e) s'
theorem note_same {a : Value} {ce env : Env} (h : ce.frame = env.frame) : noteFrame a ce = noteFrame a env := by
  unfold noteFrame PySem.frameOf
  rw [h]
section
variable {X : Cx} {W : WX} {pins : List (Addr × Obj)} {σ : L2.St} {H3 : Hp} {s3 : Shared} {scope : Scope} {ce : Env} {fp : List Addr} {xe : Value → Shared → Prop} {use : Option (Value → Sem Unit)} {Qf : Value → Shared → Prop} {D : Addr}
theorem blk_out (hs : X.stack = X.env :: X.outer) (hf : X.env.frame = some X.env.locals) (tk : Takes X W) (I3 : Inv X pins σ H3 s3) (cL : ce.locals = s3.heap.objs.size) (cF : ce.frame = X.env.frame) (f3 : ∀ b ∈ fp, FpOk X pins H3 b) (σ' : L2.St)
    (pins' : List (Addr × Obj)) (H : Hp) (s : Shared) (e : Value) (s' : Shared) (J : Inv (blkX X s3 H3 scope ce fp xe) pins' σ' H s) (c : L2.CX X.prog X.w X.stack H s (fun cls d H' => W cls d σ H') e s') : outX X ce use Qf D s3.heap.objs.size e s' := by
  obtain ⟨a, B, H', cls, d, rfl, fl, hok, ub, na, os, ag, hw⟩ := c
  obtain ⟨B', b1, b2⟩ := restrict B fun b => decide (b ≠ s3.heap.objs.size)
  obtain ⟨G, g1, g2⟩ := restrict s'.heap fun b => (decide (b ≠ s3.heap.objs.size)) && ((B.get? b).isSome || decide (b ∈ frs X.stack))
  have st : B.StaysIn s'.heap := fl.1
  have u1 : Un (frs X.stack) fp H3 H s3.heap s.heap := J.base
  have nC3 : ∀ b o, s3.heap.get? b = some o → b ≠ s3.heap.objs.size := fun b o q => Nat.ne_of_lt (Heap.lt_size q)
  have bB : ∀ b o, B'.get? b = some o → B.get? b = some o ∧ b ≠ s3.heap.objs.size := fun b o q => by
    by_cases z : b = s3.heap.objs.size
    · rw [b2 b (by simp [z])] at q; cases q
    · rw [b1 b (by simp [z])] at q; exact ⟨q, z⟩
  have bN : ∀ b, B.get? b = none → B'.get? b = none := fun b q => by
    cases r : B'.get? b with
    | none => rfl
    | some o => rw [(bB b o r).1] at q; cases q
  have gS : ∀ b o, G.get? b = some o → s'.heap.get? b = some o ∧ b ≠ s3.heap.objs.size ∧ ((B.get? b).isSome = true ∨ b ∈ frs X.stack) := fun b o q => by
    cases r : ((decide (b ≠ s3.heap.objs.size)) && ((B.get? b).isSome || decide (b ∈ frs X.stack))) with
    | false => rw [g2 b r] at q; cases q
    | true =>
      rw [g1 b r] at q
      rw [Bool.and_eq_true, Bool.or_eq_true, decide_eq_true_eq, decide_eq_true_eq] at r
      exact ⟨q, r.1, r.2⟩
  have gB : ∀ b o, b ≠ s3.heap.objs.size → B.get? b = some o → G.get? b = some o := fun b o z q => by
    rw [g1 b (by simp [z, q])]; exact st b o q
  have gF : ∀ b, b ≠ s3.heap.objs.size → b ∈ frs X.stack → G.get? b = s'.heap.get? b := fun b z q => g1 b (by simp [z, q])
  have nfr : ∀ b ∈ frs X.stack, b ≠ s3.heap.objs.size := fun b hb => by
    obtain ⟨_, o, q, _⟩ := I3.stack.mem hb
    exact nC3 b o q
  have hC : H s3.heap.objs.size = none := by
    have z : H ce.locals = none := J.free
    rw [cL] at z; exact z
  obtain ⟨mC, nsC, _⟩ := J.loc
  have nsC : s.heap.Ns s3.heap.objs.size mC := by
    have z : s.heap.Ns ce.locals mC := nsC
    rw [cL] at z; exact z
  obtain ⟨oC, esC, epC, gC, dC, rC⟩ := nsC
  have hC' : H' s3.heap.objs.size = none := ub.free _ _ gC hC
  have gC' : s'.heap.get? s3.heap.objs.size = some oC := st _ _ (ub.keep _ _ gC hC fun z => nfr _ z rfl)
  have ndC : ∀ vs, oC.data ≠ .fields vs := fun vs z => by rw [dC] at z; cases z
  -- the state without the block's own
  have I4 : Inv X pins σ H' { s' with heap := G } := by
    refine I3.call' (ch := fp) (os.trans J.os) ⟨fun b o q n hb hx => ?_, fun b o q n hb hx => ?_, fun b o q n hx => ?_, fun b o q hx => ?_, fun b xs q => ub.tups b xs (u1.tups b xs q), fun b o xs q => ub.frzs b o xs (u1.frzs b o xs q), fun b ps q => ?_⟩ (fun b o q => ?_) ag
      fun b hb => ⟨(f3 b hb).2.2.2.1, (f3 b hb).2.1, (f3 b hb).2.2.2.2.1, (f3 b hb).2.2.2.2.2⟩
    · exact gB b o (nC3 b o q) (ub.keep b o (u1.keep b o q n hb hx) (u1.free b o q n hx) hb)
    · obtain ⟨sl, q1⟩ := u1.slot b o q n hb hx
      obtain ⟨sl2, q2⟩ := ub.slot b _ q1 hb
      exact ⟨sl2, (gF b (nC3 b o q) hb).trans q2⟩
    · obtain ⟨o', q1⟩ := u1.there b o q hx
      exact ub.free b o' q1 (u1.free b o q n hx)
    · obtain ⟨o', q1⟩ := u1.there b o q hx
      by_cases hb : b ∈ frs X.stack
      · obtain ⟨sl2, q2⟩ := ub.slot b _ q1 hb
        exact ⟨_, (gF b (nC3 b o q) hb).trans q2⟩
      · obtain ⟨o2, q2⟩ := ub.there b o' q1 hb
        exact ⟨o2, gB b o2 (nC3 b o q) q2⟩
    · obtain ⟨m1, q1⟩ := u1.tbls b ps q
      obtain ⟨m2, q2⟩ := ub.tbls b _ q1
      exact ⟨m1 ++ m2, by rw [q2, Array.append_assoc]⟩
    · refine (hok b o q).stay (fun x u hx r => gB x u (fun z => ?_) r) (fun _ r => r) fun _ _ r => r
      rcases hx with hx | hx
      · rw [← hx, z, hC'] at q; cases q
      · rw [z, hC'] at hx; cases hx
  -- the exception over the lesser ground
  have fl' : HandSPX.FlyingZ B' (X.env :: X.outer) a (Zc cls d) s'.heap := by
    obtain ⟨_, z2, z3, oe, vs, T, oT, ts, z4, z5, z6, z7, z8, z9⟩ := fl
    rw [hs] at z3
    exact ⟨fun b o q => st b o (bB b o q).1, bN a z2, frames_less bN _ z3, oe, vs, T, oT, ts, z4, z5, z6, z7, bN T z8, z9⟩
  show wpAny _ _ (noteFrame (.ref a) ce) _ _ _
  rw [note_same cF]
  refine HandSPX.looks_onZ Zc.steady (by rw [I3.ok.frames, hs]) hf fl' fun h1 hd1 up1 => ?_
  obtain ⟨sl1, gC1⟩ := up1 _ _ gC' ndC
  refine ⟨mC, ⟨_, esC, epC, gC1, dC, rC⟩, fun h2 sb ce' cF' => ?_⟩
  have k2 : ∀ b, b ≠ s3.heap.objs.size → h2.get? b = h1.get? b := fun b hb => sb.2 b hb
  have hd2 : HandSPX.HeldZ B' (X.env :: X.outer) a (Zc cls d) X.env.locals h2 := by
    obtain ⟨z1, z2, z3, oe, vs, T, oT, ts, z4, z5, z6, z7, z8, z9, z10, z11, z12⟩ := hd1
    have na1 : a ≠ s3.heap.objs.size := fun z => by
      rw [z, gC1] at z4
      cases z4
      exact ndC vs z6
    have na2 : T ≠ s3.heap.objs.size := fun z => by
      rw [z, gC1] at z10
      cases z10
      exact ndC ts z11
    exact ⟨fun b o q => (k2 b (bB b o q).2).trans (z1 b o q), z2, frames_but k2 _ (fun b hb => nfr b (by rw [hs]; exact hb)) z3, oe, vs, T, oT, ts, (k2 a na1).trans z4, z5, z6, z7, z8, z9, (k2 T na2).trans z10, z11, z12⟩
  refine passOn_on (cF'.trans hf) hd2 fun h3 hd3 up3 => tk _ _ ?_
  refine ⟨a, B', { s' with heap := G }, pins, σ, H', cls, d, rfl, I4, fun b o q hb => ?_, fun b o q hnf => ?_, .inr (.inr (by rw [hs]; exact hd3)), na, rfl, ag, hw⟩
  · obtain ⟨q1, q2, q3⟩ := gS b o q
    rcases q3 with q3 | q3
    · obtain ⟨o', q4⟩ := Option.isSome_iff_exists.mp q3
      have z := st b o' q4
      rw [q1] at z; cases z
      rw [b1 b (by simp [q2])]; exact q4
    · exact absurd q3 hb
  · obtain ⟨q1, q2, _⟩ := gS b o q
    obtain ⟨sl, q3⟩ := up1 b o q1 hnf
    obtain ⟨sl3, q5⟩ := up3 b _ ((k2 b q2).trans q3) hnf
    exact ⟨sl3, q5⟩
end
section
variable {X : Cx} {W : WX} {elt tg iter : Expr} {ifs : List Expr} {scope : Scope} {own : List (Str × Nat)} {pos pos' : Pos} {wi : TI} {g : TG} {tt : TT} {use : Option (Value → Sem Unit)}
theorem lcX_core {pins : List (Addr × Obj)} {s : Shared} {σ : L2.St} {H : Hp} {Q : VK} {te : TE} {Qf : Value → Shared → Prop} (hs : X.stack = X.env :: X.outer) (hf : X.env.frame = some X.env.locals) (tk : Takes X W) (hc : X.calm = true) (hN : X.N.Nodup) (I : Inv X pins σ H s) (hi : PI X tg iter wi) (ok : BlkOk X.N X.env.scope scope own)
    (hg : ∀ (s : Shared) (H : Hp) (C : Addr) (cl : List (Str × Addr)) (fp : List Addr) (xe : Value → Shared → Prop), PG (blkX X s H scope (compEnvC scope cl C X.env) fp xe) tg g)
    (ht : ∀ (s : Shared) (H : Hp) (C : Addr) (cl : List (Str × Addr)) (fp : List Addr) (xe : Value → Shared → Prop), PTs (blkX X s H scope (compEnvC scope cl C X.env) fp xe) ifs tt)
    (he : ∀ (s : Shared) (H : Hp) (C : Addr) (cl : List (Str × Addr)) (fp : List Addr) (xe : Value → Shared → Prop), (∀ σ', PassesAt (L2.CX X.prog X.w) (blkX X s H scope (compEnvC scope cl C X.env) fp xe) σ' (fun cls d H' => W cls d σ H')) → PE (blkX X s H scope (compEnvC scope cl C X.env) fp xe) elt te)
    (hfs : ∀ x, foldedSetIterable iter X.env x = pure x) (h : tLc wi g tt te (own.map (·.2)) σ H Q)
    (hend : ∀ D C s' m H', Inv X pins σ H' s' → Q (.ref D) H' → s'.heap.Ns C m → FpOk X pins H' C → compPost (model X.prog X.w) X.A X.xe use Qf (.ref D) C (.ok .next) s') :
    wpAny (model X.prog X.w) X.A (comprehension (.ListComp elt [⟨tg, iter, ifs, 0⟩] scope pos) scope X.env pos' (newList []) false (eval iter X.env) use) Qf X.xe s := by
  have caught : ∀ y ∈ scope.names, y.2 = .free → ∃ c, X.env.cells.lookup y.1 = some c := fun y hy z => I.ok.has _ (ok.free y hy z)
  refine compr_any (use := use) rfl hfs (closure_ok caught) ok.kind (fun y hy z => by rw [ok.uniq y hy, z]) ?_
  refine thn (hi.run pins s σ H _ I h) fun xv s1 q1 => ?_
  refine thn q1 fun itv s2 q2 => ?_
  obtain ⟨it, fp, tn, J, H2, rfl, I2, T, t2, f2, q⟩ := q2
  refine wpAny_newObj_type (newEnv_comp ⟨rfl, ?_⟩) (show 0 ≤ sizeLine by decide)
  obtain ⟨D, eD⟩ : ∃ D, D = s2.heap.objs.size := ⟨_, rfl⟩
  rw [← eD]
  obtain ⟨Wt, ⟨m0, w0⟩, turn⟩ := q D (I2.hok.fresh (Nat.le_of_eq eD.symm))
  obtain ⟨s3, e3⟩ : ∃ s3 : Shared, s3 = { s2 with heap := s2.heap.push { cls := .type "list", data := .seq ([] : List Value).toArray } } := ⟨_, rfl⟩
  have hp3 : s3.heap = s2.heap.push { cls := .type "list", data := .seq ([] : List Value).toArray } := by rw [e3]
  have I3 : Inv X pins σ (upd H2 D (.lst [])) s3 := by
    rw [e3]
    refine I2.laid (t' := s2.toks) (fun b o z => Heap.get?_push_of_some _ z) (Nat.le_of_eq eD.symm) ⟨Nat.zero_le _, [], 0, .nil, ?_⟩
    rw [eD]
    exact Heap.get?_push_size _ rfl
  rw [← e3]
  obtain ⟨H3, eH⟩ : ∃ H3, H3 = upd H2 D (.lst []) := ⟨_, rfl⟩
  rw [← eH] at I3 w0
  have below : ∀ b ∈ fp, b < s2.heap.objs.size := fun b hb => by
    obtain ⟨o, z, _⟩ := T.obj _ _ t2 b hb
    exact Heap.lt_size z
  have f3 : ∀ b ∈ fp, FpOk X pins H3 b := fun b hb => by
    obtain ⟨z1, z2⟩ := f2 b hb
    refine ⟨?_, z2⟩
    rw [eH, upd_ne (fun z => by have := below b hb; rw [z, eD] at this; exact Nat.lt_irrefl _ this)]
    exact z1
  have lt3 : ∀ b ∈ fp, b < s3.heap.objs.size := fun b hb => by
    rw [hp3, Heap.size_push]
    exact Nat.lt_succ_of_lt (below b hb)
  have t3 : tn 0 s3.heap := T.keep _ _ _ t2 fun b _ o z => by
    rw [hp3]
    exact Heap.get?_push_of_some _ z
  have I4 := block_start I3 ok hN fun b hb => ⟨f3 b hb, lt3 b hb⟩
  obtain ⟨cl, ecl⟩ : ∃ cl, cl = cellsFrom (s3.heap.objs.size + 1) scope.names (cloFrom X.env.cells scope.names []) := ⟨_, rfl⟩
  obtain ⟨ce, ece⟩ : ∃ ce, ce = compEnvC scope cl s3.heap.objs.size X.env := ⟨_, rfl⟩
  have cL : ce.locals = s3.heap.objs.size := by rw [ece]; rfl
  have cF : ce.frame = X.env.frame := by rw [ece]; rfl
  rw [← ecl, ← ece] at I4
  have pg := fun xe => hg s3 H3 s3.heap.objs.size cl fp xe
  have pt := fun xe => ht s3 H3 s3.heap.objs.size cl fp xe
  have pe := fun xe => he s3 H3 s3.heap.objs.size cl fp xe
  rw [← ece] at pg pt pe
  show codeAny _ _ (.compStart (.ListComp elt [⟨tg, iter, ifs, 0⟩] scope pos) 0 (.ref it) (.ref D) (compEnvC scope (cellsFrom (s3.heap.objs.size + 1) scope.names (cloFrom X.env.cells scope.names [])) s3.heap.objs.size X.env)) (cpEnd (model X.prog X.w) X.A X.xe use Qf (.ref D) s3.heap.objs.size X.env.frame) { s3 with heap := pushCells (s3.heap.push { cls := .type "dict", data := .dict #[] }) scope.names }
  rw [← ecl, ← ece]
  obtain ⟨s4, e4⟩ : ∃ s4 : Shared, s4 = { s3 with heap := pushCells (s3.heap.push { cls := .type "dict", data := .dict #[] }) scope.names } := ⟨_, rfl⟩
  have t4 : tn 0 s4.heap := T.keep _ _ _ t3 fun b _ o z => by
    rw [e4]
    exact pushCells_keeps _ _ _ _ (Heap.get?_push_of_some _ z)
  rw [← e4] at I4 ⊢
  obtain ⟨xe, exe⟩ : ∃ xe, xe = outX X ce use Qf D s3.heap.objs.size := ⟨_, rfl⟩
  have I4 : Inv (blkX X s3 H3 scope ce fp xe) [] (wipe σ (own.map (·.2))) H3 s4 := I4.toTry xe
  have pass : ∀ σ', PassesAt (L2.CX X.prog X.w) (blkX X s3 H3 scope ce fp xe) σ' (fun cls d H' => W cls d σ H') := fun σ' pins' H s e s' Jb c => by
    show xe e s'
    rw [exe]
    exact blk_out hs hf tk I3 cL cF f3 σ' pins' H s e s' Jb c
  have pe := pe xe pass
  have still : ∀ {σ' : L2.St} {H' : Hp} {s' : Shared}, Inv (blkX X s3 H3 scope ce fp xe) [] σ' H' s' → (∀ b ∈ fp, H' b = none) → ∀ b ∈ fp, FpOk (blkX X s3 H3 scope ce fp xe) [] H' b := fun {σ' H' s'} K0 hn b hb =>
    ⟨hn b hb, (K0.ok.exf b hb).1, K0.ok.exfs b hb, .inl hb, fun x c z => (K0.ok.exf b hb).2 x c z, fun p hp => absurd (show p ∈ ([] : List (Addr × Obj)) ++ [] from hp) (by simp)⟩
  -- all turns
  have loop : codeAny (model X.prog X.w) X.A (.compLoop (.ListComp elt [⟨tg, iter, ifs, 0⟩] scope pos) 0 (.ref it) (.ref D) ce) (cpEnd (model X.prog X.w) X.A X.xe use Qf (.ref D) s3.heap.objs.size X.env.frame) s4 := by
    refine compLoop_any (fun n s' => ∃ i H', Inv (blkX X s3 H3 scope ce fp xe) [] (wipe σ (own.map (·.2))) H' s' ∧ tn i s'.heap ∧ (∀ b ∈ fp, H' b = none) ∧ Wt i n H') ?_ m0 ⟨0, H3, I4, t4, fun b hb => (f3 b hb).1, w0⟩
    rintro n s5 ⟨i, H5, I5, t5, n5, w5⟩
    rcases turn i n H5 w5 with ⟨stop, qd⟩ | ⟨go, Nx, hNx, step⟩
    · refine thnF (T.done (blkX X s3 H3 scope ce fp xe) rfl rfl rfl hc i [] s5 _ H5 (fun _ _ => False) I5 (still I5 n5) t5 stop) fun r s6 hr => ?_
      obtain ⟨rfl, I6⟩ := hr
      have I7 : Inv X pins σ H5 s6 := I3.call' (ch := fp) I6.os I6.base I6.hok I6.bare fun b hb => ⟨(f3 b hb).2.2.2.1, (f3 b hb).2.1, (f3 b hb).2.2.2.2.1, (f3 b hb).2.2.2.2.2⟩
      have z1 : H5 ce.locals = none := I6.free
      obtain ⟨m, z2, _⟩ := I6.loc
      have z2 : s6.heap.Ns ce.locals m := z2
      rw [cL] at z1 z2
      exact hend D s3.heap.objs.size s6 m H5 I7 qd z2 (I3.fpOk (Nat.le_refl _) z1)
    · refine thnF (T.item (blkX X s3 H3 scope ce fp xe) rfl rfl rfl hc i [] s5 _ H5 (fun _ _ => False) I5 (still I5 n5) t5 go) fun r s6 hr => ?_
      obtain ⟨u, rfl, k6⟩ := hr
      refine thnF k6 fun _ s7 k7 => ?_
      obtain ⟨x, H7, I7, r7, y7, t7, n7⟩ := k7
      have ex : ∀ e s', xe e s' → notedBy (model X.prog X.w) X.A ce (fun e s' => cpEnd (model X.prog X.w) X.A X.xe use Qf (.ref D) s3.heap.objs.size X.env.frame (.error e) s') e s' := fun e s' z => by rw [exe] at z; exact z
      refine wpAny_mono ((pg xe).run _ s7 _ H7 x u _ (I7.pinned (still I7 n7) (T.obj _ _ t7)) r7 (step x H7 y7)) (fun _ s8 k8 => ?_) ex
      obtain ⟨σ8, H8, I8, hw8, q8⟩ := k8
      refine wpAny_mono ((pt xe).run _ s8 σ8 H8 _ I8 q8) (fun b s9 k9 => ?_) ex
      obtain ⟨H9, I9, q9⟩ := k9
      have fin : ∀ {s' : Shared} {H' : Hp}, Inv (blkX X s3 H3 scope ce fp xe) ([] ++ pinsAt fp s7.heap) σ8 H' s' → Nx H' → ∃ m, m < n ∧ ∃ i H', Inv (blkX X s3 H3 scope ce fp xe) [] (wipe σ (own.map (·.2))) H' s' ∧ tn i s'.heap ∧ (∀ b ∈ fp, H' b = none) ∧ Wt i m H' := fun {s' H'} K0 nx => by
        obtain ⟨m', hm, w'⟩ := hNx H' nx
        have held : ∀ b ∈ fp, ∀ o, s7.heap.get? b = some o → s'.heap.get? b = some o ∧ H' b = none := fun b hb o z => by
          obtain ⟨y1, y2, _⟩ := K0.pin (b, o) (List.mem_append_right _ (List.mem_append_right _ (mem_pinsAt hb z)))
          exact ⟨y1, y2⟩
        refine ⟨m', hm, i + 1, H', (K0.unpinned (pins := [])).weak (by rw [← hw8, wipe_length]) (fun j v z => ?_), T.keep _ _ _ t7 fun b hb o z => (held b hb o z).1, fun b hb => ?_, w'⟩
        · rw [← hw8] at z
          exact (wipe_some z).1
        · obtain ⟨o, z, _⟩ := T.obj _ _ t7 b hb
          exact (held b hb o z).2
      cases b with
      | false =>
        rw [if_neg Bool.false_ne_true] at q9 ⊢
        exact fin I9 q9
      | true =>
        rw [if_pos rfl] at q9 ⊢
        refine wpAny_mono (pe.run _ s9 σ8 H9 _ I9 q9) (fun z s10 k10 => ?_) ex
        obtain ⟨yv, H10, I10, r10, acc, z1, z2, nx⟩ := k10
        exact app_ok (X := blkX X s3 H3 scope ce fp xe) I10 z1 z2 r10 fun s11 I11 => fin I11 nx
  exact codeAny_compStart_list loop (T.self X.A 0 _ _ _ t4 loop)
theorem ps_setLcX {i : Nat} {y : Str} {py spos : Pos} {te : L2.St → TE} (hs : X.stack = X.env :: X.outer) (hf : X.env.frame = some X.env.locals) (tk : Takes X W) (hc : X.calm = true) (hN : X.N.Nodup) (hy : X.N[i]? = some y) (hyl : X.env.scope.names.lookup y = some .local)
    (hsw : swapsWith (.ListComp elt [⟨tg, iter, ifs, 0⟩] scope pos) (some (.Name y py)) spos.line X.env = pure true) (hi : PI X tg iter wi) (ok : BlkOk X.N X.env.scope scope own)
    (hg : ∀ (s : Shared) (H : Hp) (C : Addr) (cl : List (Str × Addr)) (fp : List Addr) (xe : Value → Shared → Prop), PG (blkX X s H scope (compEnvC scope cl C X.env) fp xe) tg g)
    (ht : ∀ (s : Shared) (H : Hp) (C : Addr) (cl : List (Str × Addr)) (fp : List Addr) (xe : Value → Shared → Prop), PTs (blkX X s H scope (compEnvC scope cl C X.env) fp xe) ifs tt)
    (he : ∀ (σ : L2.St) (s : Shared) (H : Hp) (C : Addr) (cl : List (Str × Addr)) (fp : List Addr) (xe : Value → Shared → Prop), (∀ σ', PassesAt (L2.CX X.prog X.w) (blkX X s H scope (compEnvC scope cl C X.env) fp xe) σ' (fun cls d H' => W cls d σ H')) → PE (blkX X s H scope (compEnvC scope cl C X.env) fp xe) elt (te σ))
    (hfs : ∀ x, foldedSetIterable iter X.env x = pure x := by intro _; rfl) :
    PS X (.Assign [.Name y py] (.ListComp elt [⟨tg, iter, ifs, 0⟩] scope pos) spos) (tAsg (fun σ H Q => tLc wi g tt (te σ) (own.map (·.2)) σ H Q) (gName i)) := by
  refine ⟨fun pins s σ H D I h => ?_⟩
  rw [exec_Assign_Name_used _ _ _ _ hsw]
  refine wpAny_bind (wpAny_standAt (wpAny_bind ?_))
  refine wpAny_bind (thn (lcX_core (pos' := firstIterPos [⟨tg, iter, ifs, 0⟩] pos) (use := some (assign (.Name y py) X.env)) (Qf := fun _ s' => SP X pins D .next s') (Q := fun x H1 => gName i x σ H1 D.nx) hs hf tk hc hN I hi ok hg ht (he σ) hfs h fun L C s' m H' I' q hn f => ?_) fun _ s' hq => wpAny_pure (wpAny_pure hq))
  obtain ⟨f0, f1, f2, f3, f4, f5⟩ := f
  show wpAny _ _ (assign (.Name y py) X.env (.ref L)) _ _ _
  refine wpAny_assign_Name (store_ok2 (v := V.ref L) I' hN hy (.inl hyl) rfl (fun s2 I2 k2 => ?_) (.inr hyl))
  obtain ⟨a, sb, ha⟩ := k2
  have ne : C ≠ a := by
    rcases ha with z | z
    · rw [z]; exact f1
    · exact fun z2 => f4 y a z z2.symm
  exact ⟨m, hn.sameBut sb ne, fun h3 sb3 => ⟨_, H', I2.turned (t' := s2.toks) (fun b o hb z => (sb3.2 b hb).trans z) f0 f1 f3 f4 f5, q⟩⟩
end
end Kf
/-! Dl43: such a comprehension, over data. -/
namespace Kf
open PySem PySem.Spec L2
open PyProof.Rows hiding St
variable {M : MX}
section
variable {X : Cx} {RX : XW} {W : WX} {e : Expr} {es : List Expr} {fr : FA} {k : Nat} {f : Addr} {fd : FuncData} {ps : List Str} {dsp : DSp} {x : Str} {st : Stmt} {p pos : Pos}
/-- a call that may raise, within a block -/
theorem de_callXB (N : Fn X.K X.mg x st ps f fd) (G : FnOk X.prog X.w X.K X.mg X.base (L2.CX X.prog X.w) k f fd ps (liftSp X.K dsp)) (hr : Room k X.A) (pw : ∀ σ, PassesAt (L2.CX X.prog X.w) X σ (fun cls d H' => W cls d σ H')) (hg : Gl X x)
    (ha : DA (mxw X.K RX W) X (e :: es) fr) (hdb : (x == ("__debug__" : Str)) = false := by decide) (he : starEach (e :: es) X.env = (false, eval e X.env) :: starEach es X.env := by rfl) (hpl : (backTo pos (starEach es X.env)).any (·.1) = false := by rfl) :
    DE (mxw X.K RX W) X (.Call (.Name x p) (e :: es) [] pos) (fCallX dsp RX fr) := peMono (pe_callS G hr hg N.m N.F.kp N.b pw ha hdb he hpl) fun σ H Q h => by
  obtain ⟨F, O, P, ρ, R, g, en, q, po⟩ := h
  refine ⟨F, O, P, ρ, _, g, en, q, fun ds O1 F1 H1 vs q1 s1 g1 r1 => ?_⟩
  refine ⟨F1, O1, P, ds, R, _, g1.mt, r1, q1, po.mt g1 s1, fun cls fs O' F' H' dd q2 s2 g2 xd => ?_⟩
  exact (g2.re ((mxw X.K RX W).mono g1.rl s2 (Same.refl _))).wish q2 xd (en.mono (s1.trans s2))
end
/-- the wish from within a block, at the slots of its start -/
def wAt (W : WX) (σ : L2.St) : WX := fun cls d _ H => W cls d σ H
def rxAt (RX : XW) (ρ : DEnv) : XW := fun cls fs _ O => RX cls fs ρ O
theorem wish_in {K : PySem.W.Frag} {RX : XW} {W : WX} {F P : Hp} {ρ : DEnv} {σ : L2.St} (en : EnvOk K F ρ σ) (h : (mxw K RX W).rel F P) : (mxw K (rxAt RX ρ) (wAt W σ)).rel F P := by
  obtain ⟨P0, s0, po⟩ := h
  exact ⟨P0, s0, fun cls fs ρ' O' F' H' dd σ' q s g x _ => po cls fs ρ O' F' H' dd σ q s g x (en.mono s)⟩
def fLcX (fi : FI) (p : Pat) (ft : FT) (fe : XW → FE) (vs : List Nat) (RX : XW) : FE := fun ρ O Q => fi ρ O fun ds O1 => lcD p ft (fe (rxAt RX ρ)) (wipeD ρ vs) ds [] O1 fun acc O2 => Q (.lst acc) O2
def fLcXO (fi : FI) (p : Pat) (ft : FT) (fe : XW → FE) (vs : List Nat) (RX : XW) : FE := fun ρ O Q => fi ρ O fun ds O1 => lcD p ft (fe (rxAt RX ρ)) (wipeD ρ vs) ds [] O1 fun acc O2 => ∀ q, O2 q = none → Q (.ref q) (updO O2 q (.lst acc))
section
variable {fi : FI} {p : Pat} {ft : FT} {fe : XW → FE} {RX : XW} {W : WX}
/-- what the element's reading asks at a start -/
def teX (K : PySem.W.Frag) (fe : XW → FE) (W : WX) (σ : L2.St) : TE := fun σ' H Q => ∃ RX', liftE (mxw K RX' (wAt W σ)) K (fe RX') σ' H Q
theorem lcX_lift {vs : List Nat} {K : PySem.W.Frag} (hv : ∀ i ∈ patI p, i ∈ vs) {σ : L2.St} {H : Hp} {Q : VK} {F P : Hp} {O : Ow} {ρ : DEnv} {R : List D → Ow → Prop} (g : Gd (mxw K RX W) K F O P H) (en : EnvOk K F ρ σ)
    (q : fi ρ O fun ds O1 => lcD p ft (fe (rxAt RX ρ)) (wipeD ρ vs) ds [] O1 R)
    (po : ∀ acc O' F' H' q vacc, R acc O' → Same F F' → P q = none → (mxw K RX W).rel F' P → Gd (mxw K RX W) K F' O' (upd P q (.lst vacc)) H' → RepAll K F' acc vacc → Q (.ref q) H') :
    tLc (liftI (mxw K RX W) K fi) (patT K p) (liftT MT K ft) (teX K fe W σ) vs σ H Q := by
  refine ⟨F, O, P, ρ, _, g, en, q, fun ds O1 F1 H1 J q1 s1 g1 it D hD => ?_⟩
  have hP := g1.freeP hD
  refine ⟨fun i m H => ∃ F2 O2 acc vacc, i + m = ds.length ∧ Same F1 F2 ∧ Gd (mxw K RX W) K F2 O2 (upd P D (.lst vacc)) H ∧ RepAll K F2 acc vacc ∧ lcD p ft (fe (rxAt RX ρ)) (wipeD ρ vs) (ds.drop i) acc O2 R,
    ⟨ds.length, F1, O1, [], [], by omega, Same.refl _, g1.aside hD, .nil, by rw [List.drop_zero]; exact q1⟩, fun i m H2 hW => ?_⟩
  obtain ⟨F2, O2, acc, vacc, hm, s2, g2, ra, q2⟩ := hW
  obtain ⟨it1, it2⟩ := it F2 O2 (upd P D (.lst vacc)) H2 s2 g2 i
  by_cases hi : i < ds.length
  · obtain ⟨hgo, hy⟩ := it1 ds[i] (List.getElem?_eq_getElem hi)
    rw [List.drop_eq_getElem_cons hi] at q2
    unfold lcD at q2
    refine .inr ⟨hgo, fun H' => ∃ F3 O3 acc vacc, Same F1 F3 ∧ Gd (mxw K RX W) K F3 O3 (upd P D (.lst vacc)) H' ∧ RepAll K F3 acc vacc ∧ lcD p ft (fe (rxAt RX ρ)) (wipeD ρ vs) (ds.drop (i + 1)) acc O3 R, fun H' hN => ?_, fun x H' hyy => ?_⟩
    · obtain ⟨F3, O3, acc3, vacc3, s3, g3, r3, q3⟩ := hN
      exact ⟨m - 1, by omega, F3, O3, acc3, vacc3, by omega, s3, g3, r3, q3⟩
    · obtain ⟨F3, s3, g3, r3⟩ := hy x H' hyy
      cases e1 : patD p ds[i] (wipeD ρ vs) with
      | none => rw [e1] at q2; exact q2.elim
      | some ρ3 =>
        rw [e1] at q2
        refine pat_ok g3 p ds[i] x (wipeD ρ vs) ρ3 (wipe σ vs) _ e1 r3 ((en.mono (s1.trans (s2.trans s3))).wipes vs) fun σ4 en4 off => ?_
        refine ⟨wipe_off off hv, F3, O2, upd P D (.lst vacc), ρ3, _, g3.mt, en4, q2, fun b O5 F5 H5 q5 s5 g5 => ?_⟩
        have s15 : Same F1 F5 := s2.trans (s3.trans s5)
        have rl5 := (mxw K RX W).mono g1.rl s15 (same_upd (o := .lst vacc) hP)
        cases b with
        | true =>
          dsimp only
          rw [if_pos rfl] at q5 ⊢
          refine ⟨rxAt RX ρ, F5, O5, upd P D (.lst vacc), ρ3, _, g5.re (wish_in (en.mono (s1.trans s15)) rl5), en4.mono s5, q5, fun y O6 F6 H6 w q6 s6 g6 r6 => ?_⟩
          refine ⟨vacc, (g6.as D _ upd_same).2, by rw [← ra.length]; exact q6.1, F6, O6, acc ++ [y], vacc ++ [w], s15.trans s6, ?_, (ra.mono (s3.trans (s5.trans s6))).append (.one r6), q6.2⟩
          have g7 : Gd (mxw K RX W) K F6 O6 (upd P D (.lst vacc)) H6 := g6.re ((mxw K RX W).mono g1.rl (s15.trans s6) (same_upd hP))
          exact g7.asideSet ((mxw K RX W).mono g1.rl (s15.trans s6) (same_upd hP))
        | false =>
          dsimp only
          rw [if_neg Bool.false_ne_true] at q5 ⊢
          exact ⟨F5, O5, acc, vacc, s15, g5.re rl5, ra.mono (s3.trans s5), q5⟩
  · rw [List.drop_eq_nil_of_le (by omega)] at q2
    exact .inl ⟨it2 (by omega), po acc O2 F2 H2 D vacc q2 (s1.trans s2) hP ((mxw K RX W).mono g1.rl s2 (Same.refl _)) g2 ra⟩
theorem fLcX_lift {vs : List Nat} {K : PySem.W.Frag} (hv : ∀ i ∈ patI p, i ∈ vs) : ∀ σ H Q, liftE (mxw K RX W) K (fLcX fi p ft fe vs RX) σ H Q → tLc (liftI (mxw K RX W) K fi) (patT K p) (liftT MT K ft) (teX K fe W σ) vs σ H Q := fun σ H Q h => by
  obtain ⟨F, O, P, ρ, R, g, en, q, po⟩ := h
  refine lcX_lift hv g en q fun acc O' F' H' a vacc q1 s1 hP mk g1 r1 => ?_
  obtain ⟨s2, g2⟩ := g1.asideFz hP mk
  refine po (.lst acc) O' _ H' _ q1 (s1.trans s2) g2 ?_
  simp only [Rep]
  exact ⟨a, vacc, rfl, upd_same, r1.mono s2⟩
end
section
variable {X : Cx} {elt tg iter : Expr} {ifs : List Expr} {scope : Scope} {own : List (Str × Nat)} {pos : Pos} {fi : FI} {p : Pat} {ft : FT} {fe : XW → FE} {RX : XW} {W : WX} {vs : List Nat}
/-- what is asked of a block's element -/
abbrev EltX (X : Cx) (scope : Scope) (elt : Expr) (fe : XW → FE) : Prop := ∀ (RX' : XW) (W' : WX) (s : Shared) (H : Hp) (C : Addr) (cl : List (Str × Addr)) (fp : List Addr) (xe : Value → Shared → Prop),
  (∀ σ', PassesAt (L2.CX X.prog X.w) (blkX X s H scope (compEnvC scope cl C X.env) fp xe) σ' (fun cls d H' => W' cls d σ' H')) → DE (mxw X.K RX' W') (blkX X s H scope (compEnvC scope cl C X.env) fp xe) elt (fe RX')
theorem elt_ok (he : EltX X scope elt fe) (W : WX) (σ : L2.St) (s : Shared) (H : Hp) (C : Addr) (cl : List (Str × Addr)) (fp : List Addr) (xe : Value → Shared → Prop)
    (pw : ∀ σ', PassesAt (L2.CX X.prog X.w) (blkX X s H scope (compEnvC scope cl C X.env) fp xe) σ' (fun cls d H' => W cls d σ H')) : PE (blkX X s H scope (compEnvC scope cl C X.env) fp xe) elt (teX X.K fe W σ) :=
  ⟨fun pins s' σ' H' Q I h => by
    obtain ⟨RX', h⟩ := h
    exact (he RX' (wAt W σ) s H C cl fp xe pw).run pins s' σ' H' Q I h⟩
theorem ds_setLcX {i : Nat} {y : Str} {py spos : Pos} (tk : Takes X W) (hc : X.calm = true) (hN : X.N.Nodup) (hy : X.N[i]? = some y) (hyl : X.env.scope.names.lookup y = some .local)
    (hsw : swapsWith (.ListComp elt [⟨tg, iter, ifs, 0⟩] scope pos) (some (.Name y py)) spos.line X.env = pure true) (hi : DI (mxw X.K RX W) X tg iter fi) (ok : BlkOk X.N X.env.scope scope own)
    (hg : ∀ (s : Shared) (H : Hp) (C : Addr) (cl : List (Str × Addr)) (fp : List Addr) (xe : Value → Shared → Prop), DP (blkX X s H scope (compEnvC scope cl C X.env) fp xe) tg p)
    (ht : ∀ (s : Shared) (H : Hp) (C : Addr) (cl : List (Str × Addr)) (fp : List Addr) (xe : Value → Shared → Prop), PTs (blkX X s H scope (compEnvC scope cl C X.env) fp xe) ifs (liftT MT X.K ft)) (he : EltX X scope elt fe)
    (hs : X.stack = X.env :: X.outer := by rfl) (hf : X.env.frame = some X.env.locals := by rfl) (hvs : own.map (·.2) = vs := by rfl) (hv : ((patI p).all fun i => vs.contains i) = true := by decide) (hfs : ∀ x, foldedSetIterable iter X.env x = pure x := by intro _; rfl) :
    DS (mxw X.K RX W) X (.Assign [.Name y py] (.ListComp elt [⟨tg, iter, ifs, 0⟩] scope pos) spos) (gSet (fLcX fi p ft fe vs RX) i) := by
  subst hvs
  exact psMono (ps_setLcX (te := teX X.K fe W) (g := patT X.K p) hs hf tk hc hN hy hyl hsw hi ok hg ht (elt_ok he W) hfs) (gSet_lift (fLcX_lift (pat_in hv)))
end
section
variable {fi : FI} {p : Pat} {ft : FT} {fe : XW → FE} {RX : XW} {vs : List Nat} {ρ : DEnv} {O : Ow} {Q : VD}
theorem ap_fLcX : fLcX fi p ft fe vs RX ρ O Q = fi ρ O fun ds O1 => lcD p ft (fe (rxAt RX ρ)) (wipeD ρ vs) ds [] O1 fun acc O2 => Q (.lst acc) O2 := rfl
theorem ap_fLcXO : fLcXO fi p ft fe vs RX ρ O Q = fi ρ O fun ds O1 => lcD p ft (fe (rxAt RX ρ)) (wipeD ρ vs) ds [] O1 fun acc O2 => ∀ q, O2 q = none → Q (.ref q) (updO O2 q (.lst acc)) := rfl
end
end Kf
namespace Kf
open PySem PySem.Spec L2
open PyProof.Rows hiding St
def topS (i : Nat) : Stmt := PySem.Challenge.pw_kindfill_k08_kinds_of_programs.main.body.getD i (.Pass ⟨0, 0, 0, 0⟩)
abbrev s_NoFit___init__ : Stmt := inClass (topS 4) 0
abbrev N_NoFit___init__ : List Str := ["self", "place"]
abbrev P_NoFit___init__ : List Str := ["self", "place"]
theorem sc_NoFit___init__ : FnScope N_NoFit___init__ P_NoFit___init__ (defScope s_NoFit___init__) := ⟨rfl, rfl, rfl, by decide +kernel, rfl, by decide +kernel, by decide +kernel⟩
theorem ini_NoFit {P : Program} {w : World} {K : PySem.W.Frag} {mg : Str → Option Value} {base : Heap} {B C fI : Addr} {fd : FuncData} (b : BaseX K mg "KindError" B) (F : Fun K "__init__" "NoFit.__init__" s_NoFit___init__ fI fd) (T : OexC K C) (no : PySem.W.findIn K (.ref C) "place" = some none) : FnOk P w K mg base CX0 1 fI fd P_NoFit___init__ (spI C "place") :=
  fn_initI (k := 0) (N := N_NoFit___init__) F sc_NoFit___init__ rfl rfl T no fun cdv A outer s H E => pss_cons (ps_expr (pe_binit b (by rfl) (pa_cons (pe_var (i := 0) (by rfl) (by first | exact Or.inl rfl | exact Or.inr (Or.inl rfl) | exact Or.inr (Or.inr rfl))) (pa_cons pe_str pa_nil)))) (pss_one (ps_ost (pe_var (i := 0) (by rfl) (by first | exact Or.inl rfl | exact Or.inr (Or.inl rfl) | exact Or.inr (Or.inr rfl))) (pe_var (i := 1) (by rfl) (by first | exact Or.inl rfl | exact Or.inr (Or.inl rfl) | exact Or.inr (Or.inr rfl)))))
/-! ### inner -/
abbrev s_inner : Stmt := topS 11
abbrev N_inner : List Str := ["program"]
abbrev P_inner : List Str := ["program"]
theorem sc_inner : FnScope N_inner P_inner (defScope s_inner) := ⟨rfl, rfl, rfl, by decide +kernel, rfl, by decide +kernel, by decide +kernel⟩
def g_inner : GS :=
  (gSeq (gIf (fTest (fOp (rEqD false) (fOp rIxD (fVar 0) (fC (.int 0))) (fC (.str "take")))) (gRet (fLstO (fCons (fOp rIxD (fVar 0) (fC (.int 3))) fNil))) gNext) (gSeq (gIf (fTest (fOp (rInD false) (fOp rIxD (fVar 0) (fC (.int 0))) (fTup (fCons (fC (.str "give")) (fCons (fC (.str "pair")) (fCons (fC (.str "first")) (fCons (fC (.str "second")) fNil))))))) (gRet (fCB rList1O (fCons (fSl rSlD (fVar 0) (fPart (fC (.int 1))) fNoPart) fNil))) gNext) (gRet (fLstO fNil))))
theorem der_inner {P : Program} {w : World} {K : PySem.W.Frag} {mg : Str → Option Value} {base : Heap} {k : Nat} {f : Addr} (m_list : mg "list" = none)
    (cdv : Value) (A : Around) (outer : List Env) (s : Shared) (H : Hp) (E : XK) (hr : Room k (A.deeper (envOfC "inner" (defScope s_inner) s.heap.objs.size f cdv))) :
    DSs MT (cxOf CX0 P w K mg base N_inner "inner" (defScope s_inner) f cdv A outer s H E).nox (defBody s_inner) (g_inner) :=
  (dss_cons (ds_if (dt_cmp (od_eq hr.u200) (de_ix (de_var 0) de_int) de_str (nomark _)) (dss_one (ds_ret (de_lstO (da_cons (de_ix (de_var 0) de_int) da_nil)))) dss_nil) (dss_cons (ds_if (dt_cmp (od_in hr.u200) (de_ix (de_var 0) de_int) (de_tup (da_cons de_str (da_cons de_str (da_cons de_str (da_cons de_str da_nil))))) (by rfl)) (dss_one (ds_ret (de_callTy cd_list1O (by rfl) m_list bb_list (da_cons (de_slice (de_var 0) (do_some de_int) do_none) da_nil)))) dss_nil) (dss_one (ds_ret (de_lstO da_nil)))))
/-! ### known_as -/
abbrev s_known_as : Stmt := topS 13
abbrev N_known_as : List Str := ["known", "name", "one", "kind"]
abbrev P_known_as : List Str := ["known", "name"]
theorem sc_known_as : FnScope N_known_as P_known_as (defScope s_known_as) := ⟨rfl, rfl, rfl, by decide +kernel, rfl, by decide +kernel, by decide +kernel⟩
def g_known_as : GS :=
  (gSeq (gFor (fiRev (fCons (fVar 0) fNil)) (.tp [(.nm 2), (.nm 3)]) (gIf (fTest (fOp (rEqD false) (fVar 2) (fVar 1))) (gRet (fVar 3)) gNext)) (gRet (fC .non)))
theorem der_known_as {P : Program} {w : World} {K : PySem.W.Frag} {mg : Str → Option Value} {base : Heap} {k : Nat} {f : Addr} (m_reversed : mg "reversed" = none)
    (cdv : Value) (A : Around) (outer : List Env) (s : Shared) (H : Hp) (E : XK) (hr : Room k (A.deeper (envOfC "known_as" (defScope s_known_as) s.heap.objs.size f cdv))) :
    DSs MT (cxOf CX0 P w K mg base N_known_as "known_as" (defScope s_known_as) f cdv A outer s H E).nox (defBody s_known_as) (g_known_as) :=
  (dss_cons (ds_for PassesOwn.never rfl (di_rev (by rfl) m_reversed (da_cons (de_var 0) da_nil)) (dp_tup (by rfl) (dps_cons (dp_name (i := 2) sc_known_as.nd (by rfl) (by first | exact Or.inl rfl | exact Or.inr rfl)) (dps_cons (dp_name (i := 3) sc_known_as.nd (by rfl) (by first | exact Or.inl rfl | exact Or.inr rfl)) dps_nil))) (dss_one (ds_if (dt_cmp (od_eq hr.u200) (de_var 2) (de_var 1) (nomark _)) (dss_one (ds_ret (de_var 3))) dss_nil))) (dss_one (ds_ret de_non)))
/-! ### kind_here -/
abbrev s_kind_here : Stmt := topS 14
abbrev N_kind_here : List Str := ["known", "program", "some", "word"]
abbrev P_kind_here : List Str := ["known", "program", "some"]
theorem sc_kind_here : FnScope N_kind_here P_kind_here (defScope s_kind_here) := ⟨rfl, rfl, rfl, by decide +kernel, rfl, by decide +kernel, by decide +kernel⟩
def g_kind_here (sp_known_as : DSp) (d_ONE : D) : GS :=
  (gSeq (gSet (fOp rIxD (fVar 1) (fC (.int 0))) 3) (gSeq (gIf (fTest (fOp (rEqD false) (fVar 3) (fC (.str "name")))) (gRet (fCall sp_known_as (fCons (fVar 0) (fCons (fOp rIxD (fVar 1) (fC (.int 1))) fNil)))) gNext) (gSeq (gIf (fTest (fOp (rEqD false) (fVar 3) (fC (.str "take")))) (gRet (fTup (fCons (fC (.str "to")) (fCons (fOp rIxD (fVar 1) (fC (.int 2))) (fCons (fOp rIxD (fVar 2) (fC (.int 0))) fNil))))) gNext) (gSeq (gIf (fTest (fOp (rEqD false) (fVar 3) (fC (.str "pair")))) (gRet (fTup (fCons (fC (.str "both")) (fCons (fOp rIxD (fVar 2) (fC (.int 0))) (fCons (fOp rIxD (fVar 2) (fC (.int 1))) fNil))))) gNext) (gSeq (gIf (fTest (fOp (rEqD false) (fVar 3) (fC (.str "thing")))) (gRet (fC d_ONE)) gNext) (gSeq (gIf (fTest (fOp (rEqD false) (fVar 3) (fC (.str "gap")))) (gRet (fOp rIxD (fVar 1) (fC (.int 1)))) gNext) (gSeq (gIf (fTest (fOp (rEqD false) (fVar 3) (fC (.str "give")))) (gSeq (gIf (fAnd (fTest (fOp (rEqD false) (fOp rIxD (fOp rIxD (fVar 2) (fC (.int 0))) (fC (.int 0))) (fC (.str "to")))) (fTest (fOp (rEqD false) (fOp rIxD (fOp rIxD (fVar 2) (fC (.int 0))) (fC (.int 1))) (fOp rIxD (fVar 2) (fC (.int 1)))))) (gRet (fOp rIxD (fOp rIxD (fVar 2) (fC (.int 0))) (fC (.int 2)))) gNext) (gRet (fC .non))) gNext) (gSeq (gIf (fTest (fOp (rEqD true) (fOp rIxD (fOp rIxD (fVar 2) (fC (.int 0))) (fC (.int 0))) (fC (.str "both")))) (gRet (fC .non)) gNext) (gRet (fOp rIxD (fOp rIxD (fVar 2) (fC (.int 0))) (fOp rAddD (fC (.int 1)) (fCB rInt1 (fCons (fOp (rEqD false) (fVar 3) (fC (.str "second"))) fNil)))))))))))))
theorem der_kind_here {P : Program} {w : World} {K : PySem.W.Frag} {mg : Str → Option Value} {base : Heap} {k : Nat} {f : Addr} {sp_known_as : DSp} {d_ONE : D} {a_known_as : Addr} {fd_known_as : FuncData} (n_known_as : Fn K mg "known_as" s_known_as P_known_as a_known_as fd_known_as) (G_known_as : FnOk P w K mg base CX0 k a_known_as fd_known_as P_known_as (liftSp K sp_known_as)) (m_int : mg "int" = none) (c_ONE : Cst K mg "ONE" d_ONE)
    (cdv : Value) (A : Around) (outer : List Env) (s : Shared) (H : Hp) (E : XK) (hr : Room k (A.deeper (envOfC "kind_here" (defScope s_kind_here) s.heap.objs.size f cdv))) :
    DSs MT (cxOf CX0 P w K mg base N_kind_here "kind_here" (defScope s_kind_here) f cdv A outer s H E).nox (defBody s_kind_here) (g_kind_here sp_known_as d_ONE) :=
  (dss_cons (ds_set (i := 3) sc_kind_here.nd rfl (by first | exact Or.inl rfl | exact Or.inr rfl) (de_ix (de_var 1) de_int)) (dss_cons (ds_if (dt_cmp (od_eq hr.u200) (de_var 3) de_str (nomark _)) (dss_one (ds_ret (de_callN n_known_as G_known_as hr (by rfl) (da_cons (de_var 0) (da_cons (de_ix (de_var 1) de_int) da_nil))))) dss_nil) (dss_cons (ds_if (dt_cmp (od_eq hr.u200) (de_var 3) de_str (nomark _)) (dss_one (ds_ret (de_tup (da_cons de_str (da_cons (de_ix (de_var 1) de_int) (da_cons (de_ix (de_var 2) de_int) da_nil)))))) dss_nil) (dss_cons (ds_if (dt_cmp (od_eq hr.u200) (de_var 3) de_str (nomark _)) (dss_one (ds_ret (de_tup (da_cons de_str (da_cons (de_ix (de_var 2) de_int) (da_cons (de_ix (de_var 2) de_int) da_nil)))))) dss_nil) (dss_cons (ds_if (dt_cmp (od_eq hr.u200) (de_var 3) de_str (nomark _)) (dss_one (ds_ret (de_cst c_ONE (by rfl)))) dss_nil) (dss_cons (ds_if (dt_cmp (od_eq hr.u200) (de_var 3) de_str (nomark _)) (dss_one (ds_ret (de_ix (de_var 1) de_int))) dss_nil) (dss_cons (ds_if (dt_cmp (od_eq hr.u200) (de_var 3) de_str (nomark _)) (dss_cons (ds_if (dt_of (dw_and (dt_cmp (od_eq hr.u200) (de_ix (de_ix (de_var 2) de_int) de_int) de_str (nomark _)) (dw_and1 (dt_cmp (od_eq hr.u200) (de_ix (de_ix (de_var 2) de_int) de_int) (de_ix (de_var 2) de_int) (nomark _))))) (dss_one (ds_ret (de_ix (de_ix (de_var 2) de_int) de_int))) dss_nil) (dss_one (ds_ret de_non))) dss_nil) (dss_cons (ds_if (dt_cmp (od_ne hr.u200) (de_ix (de_ix (de_var 2) de_int) de_int) de_str (nomark _)) (dss_one (ds_ret de_non)) dss_nil) (dss_one (ds_ret (de_ix (de_ix (de_var 2) de_int) (de_op od_add de_int (de_callTy cd_int1 (by rfl) m_int bb_int (da_cons (de_cmp (od_eq hr.u200) (de_var 3) de_str (nomark _)) da_nil))))))))))))))
/-! ### kind_within -/
abbrev s_kind_within : Stmt := topS 15
abbrev N_kind_within : List Str := ["known", "program", "place", "some", "found", "k", "part"]
abbrev P_kind_within : List Str := ["known", "program", "place"]
theorem sc_kind_within : FnScope N_kind_within P_kind_within (defScope s_kind_within) := ⟨rfl, rfl, rfl, by decide +kernel, rfl, by decide +kernel, by decide +kernel⟩
def g_kind_within (sp_inner sp_kind_within sp_kind_here : DSp) (C_NoFit : Addr) (RX : XW) : GS :=
  (gSeq (gIf (fTest (fOp (rEqD false) (fOp rIxD (fVar 1) (fC (.int 0))) (fC (.str "take")))) (gSet (fOp rAddD (fVar 0) (fLst (fCons (fTup (fCons (fOp rIxD (fVar 1) (fC (.int 1))) (fCons (fOp rIxD (fVar 1) (fC (.int 2))) fNil))) fNil))) 0) gNext) (gSeq (gSet (fLcX (fiEnum (fCons (fFrz (fCall sp_inner (fCons (fVar 1) fNil))) fNil)) (.tp [(.nm 5), (.nm 6)]) fYes (fun RX => (fCallX sp_kind_within RX (fCons (fVar 0) (fCons (fVar 6) (fCons (fOp rCatO (fVar 2) (fLst (fCons (fVar 5) fNil))) fNil))))) [5, 6] RX) 3) (gSeq (gSet (fCall sp_kind_here (fCons (fVar 0) (fCons (fVar 1) (fCons (fVar 3) fNil)))) 4) (gSeq (gIf (fTest (fOp (rIsN false) (fVar 4) (fC .non))) (gRaiseI RX C_NoFit "place" (fCons (fVar 2) fNil)) gNext) (gRet (fVar 4))))))
theorem der_kind_within {P : Program} {w : World} {K : PySem.W.Frag} {mg : Str → Option Value} {base : Heap} {k : Nat} {f : Addr} {sp_inner sp_kind_within sp_kind_here : DSp} {C_NoFit : Addr} {a_inner : Addr} {fd_inner : FuncData} (n_inner : Fn K mg "inner" s_inner P_inner a_inner fd_inner) (G_inner : FnOk P w K mg base CX0 k a_inner fd_inner P_inner (liftSp K sp_inner)) {a_kind_within : Addr} {fd_kind_within : FuncData} (n_kind_within : Fn K mg "kind_within" s_kind_within P_kind_within a_kind_within fd_kind_within) (G_kind_within : FnOk P w K mg base (L2.CX P w) k a_kind_within fd_kind_within P_kind_within (liftSp K sp_kind_within)) {a_kind_here : Addr} {fd_kind_here : FuncData} (n_kind_here : Fn K mg "kind_here" s_kind_here P_kind_here a_kind_here fd_kind_here) (G_kind_here : FnOk P w K mg base CX0 k a_kind_here fd_kind_here P_kind_here (liftSp K sp_kind_here)) (m_enumerate : mg "enumerate" = none) {fI_NoFit : Addr} {fdI_NoFit : FuncData} (xi_NoFit : ExI K mg "NoFit" "place" C_NoFit fI_NoFit fdI_NoFit "NoFit.__init__" s_NoFit___init__ P_NoFit___init__) (GI_NoFit : FnOk P w K mg base CX0 1 fI_NoFit fdI_NoFit P_NoFit___init__ (spI C_NoFit "place")) (h2_NoFit : 2 ≤ k)
    (RX : XW) (W : WX) (cdv : Value) (A : Around) (outer : List Env) (s : Shared) (H : Hp) (E : XK) (tk : Takes (cxOf (L2.CX P w) P w K mg base N_kind_within "kind_within" (defScope s_kind_within) f cdv A outer s H E) W) (hp : PassesOwn (model (cxOf (L2.CX P w) P w K mg base N_kind_within "kind_within" (defScope s_kind_within) f cdv A outer s H E).prog (cxOf (L2.CX P w) P w K mg base N_kind_within "kind_within" (defScope s_kind_within) f cdv A outer s H E).w) (cxOf (L2.CX P w) P w K mg base N_kind_within "kind_within" (defScope s_kind_within) f cdv A outer s H E).A (cxOf (L2.CX P w) P w K mg base N_kind_within "kind_within" (defScope s_kind_within) f cdv A outer s H E).env (cxOf (L2.CX P w) P w K mg base N_kind_within "kind_within" (defScope s_kind_within) f cdv A outer s H E).xe) (hr : Room k (A.deeper (envOfC "kind_within" (defScope s_kind_within) s.heap.objs.size f cdv))) :
    DSs (mxw K RX W) (cxOf (L2.CX P w) P w K mg base N_kind_within "kind_within" (defScope s_kind_within) f cdv A outer s H E) (defBody s_kind_within) (g_kind_within sp_inner sp_kind_within sp_kind_here C_NoFit RX) :=
  (dss_cons (ds_if (dt_cmp (od_eq hr.u200) (de_ix (de_var 1) de_int) de_str (nomark _)) (dss_one (ds_set (i := 0) sc_kind_within.nd rfl (by first | exact Or.inl rfl | exact Or.inr rfl) (de_op od_add (de_var 0) (de_lst (da_cons (de_tup (da_cons (de_ix (de_var 1) de_int) (da_cons (de_ix (de_var 1) de_int) da_nil))) da_nil))))) dss_nil) (dss_cons (ds_setLcX (i := 3) tk rfl sc_kind_within.nd rfl rfl (sw_true rfl rfl rfl (by decide +kernel)) (di_enum (by rfl) m_enumerate (da_cons (de_frz (de_callN n_inner G_inner hr (by rfl) (da_cons (de_var 1) da_nil))) da_nil)) (blkOk_by (own := [("k", 5), ("part", 6)]) (N := N_kind_within) (sc := defScope s_kind_within) (by decide +kernel)) (fun _ _ _ _ _ _ => (dp_tup (by rfl) (dps_cons (dp_name (i := 5) sc_kind_within.nd (by rfl) (by first | exact Or.inl rfl | exact Or.inr rfl)) (dps_cons (dp_name (i := 6) sc_kind_within.nd (by rfl) (by first | exact Or.inl rfl | exact Or.inr rfl)) dps_nil)))) (fun _ _ _ _ _ _ => dts_nil) (fun RX W _ _ _ _ _ _ pw => (de_callXB n_kind_within G_kind_within hr pw (by rfl) (da_cons (de_var 0) (da_cons (de_var 6) (da_cons (de_op od_catO (de_var 2) (de_lst (da_cons (de_var 5) da_nil))) da_nil)))))) (dss_cons (ds_set (i := 4) sc_kind_within.nd rfl (by first | exact Or.inl rfl | exact Or.inr rfl) (de_callN n_kind_here G_kind_here hr (by rfl) (da_cons (de_var 0) (da_cons (de_var 1) (da_cons (de_var 3) da_nil))))) (dss_cons (ds_if (dt_cmp od_is (de_var 4) de_non (nomark _)) (dss_one (ds_raiseI xi_NoFit GI_NoFit (hr.mono h2_NoFit) (by rfl) tk (by rfl) (da_cons (de_var 2) da_nil))) dss_nil) (dss_one (ds_ret (de_var 4)))))))
/-! ### kind_of -/
abbrev s_kind_of : Stmt := topS 16
abbrev N_kind_of : List Str := ["row", "program"]
abbrev P_kind_of : List Str := ["row", "program"]
theorem sc_kind_of : FnScope N_kind_of P_kind_of (defScope s_kind_of) := ⟨rfl, rfl, rfl, by decide +kernel, rfl, by decide +kernel, by decide +kernel⟩
def g_kind_of (sp_kind_within : DSp) (RX : XW) : GS :=
  (gRet (fCallX sp_kind_within RX (fCons (fCB rList1 (fCons (fVar 0) fNil)) (fCons (fVar 1) (fCons (fLstO fNil) fNil)))))
theorem der_kind_of {P : Program} {w : World} {K : PySem.W.Frag} {mg : Str → Option Value} {base : Heap} {k : Nat} {f : Addr} {sp_kind_within : DSp} {a_kind_within : Addr} {fd_kind_within : FuncData} (n_kind_within : Fn K mg "kind_within" s_kind_within P_kind_within a_kind_within fd_kind_within) (G_kind_within : FnOk P w K mg base (L2.CX P w) k a_kind_within fd_kind_within P_kind_within (liftSp K sp_kind_within)) (m_list : mg "list" = none)
    (RX : XW) (W : WX) (cdv : Value) (A : Around) (outer : List Env) (s : Shared) (H : Hp) (E : XK) (tk : Takes (cxOf (L2.CX P w) P w K mg base N_kind_of "kind_of" (defScope s_kind_of) f cdv A outer s H E) W) (hp : PassesOwn (model (cxOf (L2.CX P w) P w K mg base N_kind_of "kind_of" (defScope s_kind_of) f cdv A outer s H E).prog (cxOf (L2.CX P w) P w K mg base N_kind_of "kind_of" (defScope s_kind_of) f cdv A outer s H E).w) (cxOf (L2.CX P w) P w K mg base N_kind_of "kind_of" (defScope s_kind_of) f cdv A outer s H E).A (cxOf (L2.CX P w) P w K mg base N_kind_of "kind_of" (defScope s_kind_of) f cdv A outer s H E).env (cxOf (L2.CX P w) P w K mg base N_kind_of "kind_of" (defScope s_kind_of) f cdv A outer s H E).xe) (hr : Room k (A.deeper (envOfC "kind_of" (defScope s_kind_of) s.heap.objs.size f cdv))) :
    DSs (mxw K RX W) (cxOf (L2.CX P w) P w K mg base N_kind_of "kind_of" (defScope s_kind_of) f cdv A outer s H E) (defBody s_kind_of) (g_kind_of sp_kind_within RX) :=
  (dss_one (ds_ret (de_callX n_kind_within G_kind_within hr tk (by rfl) (da_cons (de_callTy cd_list1 (by rfl) m_list bb_list (da_cons (de_var 0) da_nil)) (da_cons (de_var 1) (da_cons (de_lstO da_nil) da_nil))))))
/-! ### _law_pool -/
abbrev s__law_pool : Stmt := topS 18
abbrev N__law_pool : List Str := ["_law_script", "_law_k", "_law_cell", "_law_number"]
abbrev P__law_pool : List Str := ["_law_script", "_law_k"]
theorem sc__law_pool : FnScope N__law_pool P__law_pool (defScope s__law_pool) := ⟨rfl, rfl, rfl, by decide +kernel, rfl, by decide +kernel, by decide +kernel⟩
def g__law_pool : GS :=
  (gSeq (gSet (fC (.int 0)) 2) (gSeq (gIf (fTest (fOp rLtD (fVar 1) (fCB rLenD (fCons (fVar 0) fNil)))) (gSet (fOp rIxD (fVar 0) (fVar 1)) 2) gNext) (gSeq (gSet (fOp rModD (fOp rPowD (fOp rAddD (fOp rAddD (fOp rModD (fVar 2) (fC (.int 2147483629))) (fOp rMulD (fOp rMulD (fC (.int 104729)) (fVar 1)) (fVar 1))) (fC (.int 11))) (fC (.int 3))) (fC (.int 2147483647))) 3) (gSeq (gIf (fTest (fOp rLtD (fVar 2) (fOp rPowD (fC (.int 10)) (fC (.int 18))))) (gSet (fC (.int 0)) 2) gNext) (gRet (fPool (fCons (fVar 2) (fCons (fVar 3) fNil))))))))
theorem der__law_pool {P : Program} {w : World} {K : PySem.W.Frag} {mg : Str → Option Value} {base : Heap} {k : Nat} {f : Addr} (m_len : mg "len" = none)
    (cdv : Value) (A : Around) (outer : List Env) (s : Shared) (H : Hp) (E : XK) (hr : Room k (A.deeper (envOfC "_law_pool" (defScope s__law_pool) s.heap.objs.size f cdv))) :
    DSs MT (cxOf CX0 P w K mg base N__law_pool "_law_pool" (defScope s__law_pool) f cdv A outer s H E).nox (defBody s__law_pool) (g__law_pool) :=
  (dss_cons (ds_set (i := 2) sc__law_pool.nd rfl (by first | exact Or.inl rfl | exact Or.inr rfl) de_int) (dss_cons (ds_if (dt_cmp od_lt (de_var 1) (de_callB cd_len (by rfl) m_len bb_len (da_cons (de_var 0) da_nil)) (nomark _)) (dss_one (ds_set (i := 2) sc__law_pool.nd rfl (by first | exact Or.inl rfl | exact Or.inr rfl) (de_ix (de_var 0) (de_var 1)))) dss_nil) (dss_cons (ds_set (i := 3) sc__law_pool.nd rfl (by first | exact Or.inl rfl | exact Or.inr rfl) (de_op od_mod (de_op od_pow (de_op od_add (de_op od_add (de_op od_mod (de_var 2) de_int) (de_op od_mul (de_op od_mul de_int (de_var 1)) (de_var 1))) de_int) de_int) de_int)) (dss_cons (ds_if (dt_cmp od_lt (de_var 2) (de_op od_pow de_int de_int) (nomark _)) (dss_one (ds_set (i := 2) sc__law_pool.nd rfl (by first | exact Or.inl rfl | exact Or.inr rfl) de_int)) dss_nil) (dss_one (ds_ret (de_pool (da_cons (de_var 2) (da_cons (de_var 3) da_nil)))))))))
/-! ### _law_take -/
abbrev s__law_take : Stmt := topS 19
abbrev N__law_take : List Str := ["_law_pool_here", "_law_many_here", "_law_found"]
abbrev P__law_take : List Str := ["_law_pool_here", "_law_many_here"]
theorem sc__law_take : FnScope N__law_take P__law_take (defScope s__law_take) := ⟨rfl, rfl, rfl, by decide +kernel, rfl, by decide +kernel, by decide +kernel⟩
def g__law_take : GS :=
  (gSeq (gIf (fTest (fOp rGtD (fOp rIxD (fVar 0) (fC (.int 0))) (fC (.int 0)))) (gSeq (gSet (fOp rModD (fOp rIxD (fVar 0) (fC (.int 0))) (fVar 1)) 2) (gSeq (gSetIx (fVar 0) (fC (.int 0)) (fOp rDivD (fOp rIxD (fVar 0) (fC (.int 0))) (fVar 1))) (gRet (fVar 2)))) gNext) (gSeq (gSetIx (fVar 0) (fC (.int 1)) (fOp rModD (fOp rAddD (fOp rMulD (fOp rIxD (fVar 0) (fC (.int 1))) (fC (.int 48271))) (fC (.int 11))) (fC (.int 2147483647)))) (gRet (fOp rModD (fOp rDivD (fOp rModD (fOp rMulD (fOp rIxD (fVar 0) (fC (.int 1))) (fOp rIxD (fVar 0) (fC (.int 1)))) (fC (.int 2147483629))) (fC (.int 64))) (fVar 1)))))
theorem der__law_take {P : Program} {w : World} {K : PySem.W.Frag} {mg : Str → Option Value} {base : Heap} {k : Nat} {f : Addr} 
    (cdv : Value) (A : Around) (outer : List Env) (s : Shared) (H : Hp) (E : XK) (hr : Room k (A.deeper (envOfC "_law_take" (defScope s__law_take) s.heap.objs.size f cdv))) :
    DSs MT (cxOf CX0 P w K mg base N__law_take "_law_take" (defScope s__law_take) f cdv A outer s H E).nox (defBody s__law_take) (g__law_take) :=
  (dss_cons (ds_if (dt_cmp od_gt (de_ix (de_var 0) de_int) de_int (nomark _)) (dss_cons (ds_set (i := 2) sc__law_take.nd rfl (by first | exact Or.inl rfl | exact Or.inr rfl) (de_op od_mod (de_ix (de_var 0) de_int) (de_var 1))) (dss_cons (ds_setIx (de_var 0) de_int (de_op od_div (de_ix (de_var 0) de_int) (de_var 1))) (dss_one (ds_ret (de_var 2))))) dss_nil) (dss_cons (ds_setIx (de_var 0) de_int (de_op od_mod (de_op od_add (de_op od_mul (de_ix (de_var 0) de_int) de_int) de_int) de_int)) (dss_one (ds_ret (de_op od_mod (de_op od_div (de_op od_mod (de_op od_mul (de_ix (de_var 0) de_int) (de_ix (de_var 0) de_int)) de_int) de_int) (de_var 1))))))
/-! ### _law_kind -/
abbrev s__law_kind : Stmt := topS 20
abbrev N__law_kind : List Str := ["_law_pool_here", "_law_leaves", "_law_marks", "_law_one", "_law_word"]
abbrev P__law_kind : List Str := ["_law_pool_here", "_law_leaves", "_law_marks"]
theorem sc__law_kind : FnScope N__law_kind P__law_kind (defScope s__law_kind) := ⟨rfl, rfl, rfl, by decide +kernel, rfl, by decide +kernel, by decide +kernel⟩
def g__law_kind (sp__law_take sp__law_kind : DSp) : GS :=
  (gSeq (gIf (fTest (fOp (rEqD false) (fVar 1) (fC (.int 1)))) (gSeq (gIf (fTest (fOp (rEqD false) (fCall sp__law_take (fCons (fVar 0) (fCons (fC (.int 9)) fNil))) (fC (.int 8)))) (gRet (fTup (fCons (fC (.str "one")) fNil))) gNext) (gRet (fTup (fCons (fC (.str "mark")) (fCons (fOp rIxD (fVar 2) (fCall sp__law_take (fCons (fVar 0) (fCons (fCB rLenD (fCons (fVar 2) fNil)) fNil)))) fNil))))) gNext) (gSeq (gSet (fOp rAddD (fC (.int 1)) (fCall sp__law_take (fCons (fVar 0) (fCons (fOp rSubD (fVar 1) (fC (.int 1))) fNil)))) 3) (gSeq (gSet (fOp rIxD (fLst (fCons (fC (.str "to")) (fCons (fC (.str "to")) (fCons (fC (.str "both")) fNil)))) (fCall sp__law_take (fCons (fVar 0) (fCons (fC (.int 3)) fNil)))) 4) (gRet (fTup (fCons (fVar 4) (fCons (fCall sp__law_kind (fCons (fVar 0) (fCons (fVar 3) (fCons (fVar 2) fNil)))) (fCons (fCall sp__law_kind (fCons (fVar 0) (fCons (fOp rSubD (fVar 1) (fVar 3)) (fCons (fVar 2) fNil)))) fNil))))))))
theorem der__law_kind {P : Program} {w : World} {K : PySem.W.Frag} {mg : Str → Option Value} {base : Heap} {k : Nat} {f : Addr} {sp__law_take sp__law_kind : DSp} {a__law_take : Addr} {fd__law_take : FuncData} (n__law_take : Fn K mg "_law_take" s__law_take P__law_take a__law_take fd__law_take) (G__law_take : FnOk P w K mg base CX0 k a__law_take fd__law_take P__law_take (liftSp K sp__law_take)) {a__law_kind : Addr} {fd__law_kind : FuncData} (n__law_kind : Fn K mg "_law_kind" s__law_kind P__law_kind a__law_kind fd__law_kind) (G__law_kind : FnOk P w K mg base CX0 k a__law_kind fd__law_kind P__law_kind (liftSp K sp__law_kind)) (m_len : mg "len" = none)
    (cdv : Value) (A : Around) (outer : List Env) (s : Shared) (H : Hp) (E : XK) (hr : Room k (A.deeper (envOfC "_law_kind" (defScope s__law_kind) s.heap.objs.size f cdv))) :
    DSs MT (cxOf CX0 P w K mg base N__law_kind "_law_kind" (defScope s__law_kind) f cdv A outer s H E).nox (defBody s__law_kind) (g__law_kind sp__law_take sp__law_kind) :=
  (dss_cons (ds_if (dt_cmp (od_eq hr.u200) (de_var 1) de_int (nomark _)) (dss_cons (ds_if (dt_cmp (od_eq hr.u200) (de_callN n__law_take G__law_take hr (by rfl) (da_cons (de_var 0) (da_cons de_int da_nil))) de_int (nomark _)) (dss_one (ds_ret (de_tup (da_cons de_str da_nil)))) dss_nil) (dss_one (ds_ret (de_tup (da_cons de_str (da_cons (de_ix (de_var 2) (de_callN n__law_take G__law_take hr (by rfl) (da_cons (de_var 0) (da_cons (de_callB cd_len (by rfl) m_len bb_len (da_cons (de_var 2) da_nil)) da_nil)))) da_nil)))))) dss_nil) (dss_cons (ds_set (i := 3) sc__law_kind.nd rfl (by first | exact Or.inl rfl | exact Or.inr rfl) (de_op od_add de_int (de_callN n__law_take G__law_take hr (by rfl) (da_cons (de_var 0) (da_cons (de_op od_sub (de_var 1) de_int) da_nil))))) (dss_cons (ds_set (i := 4) sc__law_kind.nd rfl (by first | exact Or.inl rfl | exact Or.inr rfl) (de_ix (de_lst (da_cons de_str (da_cons de_str (da_cons de_str da_nil)))) (de_callN n__law_take G__law_take hr (by rfl) (da_cons (de_var 0) (da_cons de_int da_nil))))) (dss_one (ds_ret (de_tup (da_cons (de_var 4) (da_cons (de_callN n__law_kind G__law_kind hr (by rfl) (da_cons (de_var 0) (da_cons (de_var 3) (da_cons (de_var 2) da_nil)))) (da_cons (de_callN n__law_kind G__law_kind hr (by rfl) (da_cons (de_var 0) (da_cons (de_op od_sub (de_var 1) (de_var 3)) (da_cons (de_var 2) da_nil)))) da_nil)))))))))
/-! ### _law_seen -/
abbrev s__law_seen : Stmt := topS 21
abbrev N__law_seen : List Str := ["_law_known", "_law_found", "_law_name", "_law_kind_here"]
abbrev P__law_seen : List Str := ["_law_known"]
theorem sc__law_seen : FnScope N__law_seen P__law_seen (defScope s__law_seen) := ⟨rfl, rfl, rfl, by decide +kernel, rfl, by decide +kernel, by decide +kernel⟩
def g__law_seen : GS :=
  (gSeq (gSet fDicO 1) (gSeq (gFor (fiList (fVar 0)) (.tp [(.nm 2), (.nm 3)]) (gDPut (fVar 1) (fVar 2) (fVar 3))) (gRet (fLcK 1 (.nm 2) fYes (fTup (fCons (fVar 2) (fCons (fDGet (fVar 1) (fVar 2)) fNil))) [2]))))
theorem der__law_seen {P : Program} {w : World} {K : PySem.W.Frag} {mg : Str → Option Value} {base : Heap} {k : Nat} {f : Addr} 
    (cdv : Value) (A : Around) (outer : List Env) (s : Shared) (H : Hp) (E : XK) (hr : Room k (A.deeper (envOfC "_law_seen" (defScope s__law_seen) s.heap.objs.size f cdv))) :
    DSs MT (cxOf CX0 P w K mg base N__law_seen "_law_seen" (defScope s__law_seen) f cdv A outer s H E).nox (defBody s__law_seen) (g__law_seen) :=
  (dss_cons (ds_set (i := 1) sc__law_seen.nd rfl (by first | exact Or.inl rfl | exact Or.inr rfl) de_dicO) (dss_cons (ds_for PassesOwn.never rfl (di_list (de_var 0)) (dp_tup (by rfl) (dps_cons (dp_name (i := 2) sc__law_seen.nd (by rfl) (by first | exact Or.inl rfl | exact Or.inr rfl)) (dps_cons (dp_name (i := 3) sc__law_seen.nd (by rfl) (by first | exact Or.inl rfl | exact Or.inr rfl)) dps_nil))) (dss_one (ds_dput hr.u200 (de_var 1) (de_var 2) (de_var 3)))) (dss_one (ds_ret (de_lcK (by rfl) sc__law_seen.nd (de_var 1) (blkOk_by (own := [("_law_name", 2)]) (N := N__law_seen) (sc := defScope s__law_seen) (by decide +kernel)) (fun _ _ _ _ _ => (dp_name (i := 2) sc__law_seen.nd (by rfl) (by first | exact Or.inl rfl | exact Or.inr rfl))) (fun _ _ _ _ _ => dts_nil) (fun _ _ _ _ _ => (de_tup (da_cons (de_var 2) (da_cons (de_dget hr.u200 (de_var 1) (de_var 2)) da_nil)))))))))
/-! ### _law_uses -/
abbrev s__law_uses : Stmt := topS 22
abbrev N__law_uses : List Str := ["_law_kind_here", "_law_goal", "_law_name", "_law_found", "_law_moves"]
abbrev P__law_uses : List Str := ["_law_kind_here", "_law_goal", "_law_name"]
theorem sc__law_uses : FnScope N__law_uses P__law_uses (defScope s__law_uses) := ⟨rfl, rfl, rfl, by decide +kernel, rfl, by decide +kernel, by decide +kernel⟩
def g__law_uses (sp__law_uses : DSp) : GS :=
  (gSeq (gSet (fLstO fNil) 3) (gSeq (gIf (fTest (fOp (rEqD false) (fVar 0) (fVar 1))) (gDrop (fBM "list" rAppendD (fVar 3) (fCons (fLst fNil) fNil))) gNext) (gSeq (gIf (fTest (fOp (rEqD false) (fOp rIxD (fVar 0) (fC (.int 0))) (fC (.str "to")))) (gSet (fOp rCatO (fVar 3) (fLc (fiList (fCall sp__law_uses (fCons (fOp rIxD (fVar 0) (fC (.int 2))) (fCons (fVar 1) (fCons (fVar 2) fNil))))) (.nm 4) fYes (fOp rAddD (fLst (fCons (fOp rIxD (fVar 0) (fC (.int 1))) fNil)) (fVar 4)) [4])) 3) gNext) (gSeq (gIf (fTest (fOp (rEqD false) (fOp rIxD (fVar 0) (fC (.int 0))) (fC (.str "both")))) (gSeq (gSet (fOp rCatO (fVar 3) (fLc (fiList (fCall sp__law_uses (fCons (fOp rIxD (fVar 0) (fC (.int 1))) (fCons (fVar 1) (fCons (fVar 2) fNil))))) (.nm 4) fYes (fOp rAddD (fLst (fCons (fC (.int 1)) fNil)) (fVar 4)) [4])) 3) (gSet (fOp rCatO (fVar 3) (fLc (fiList (fCall sp__law_uses (fCons (fOp rIxD (fVar 0) (fC (.int 2))) (fCons (fVar 1) (fCons (fVar 2) fNil))))) (.nm 4) fYes (fOp rAddD (fLst (fCons (fC (.int 2)) fNil)) (fVar 4)) [4])) 3)) gNext) (gRetF (fVar 3))))))
theorem der__law_uses {P : Program} {w : World} {K : PySem.W.Frag} {mg : Str → Option Value} {base : Heap} {k : Nat} {f : Addr} {sp__law_uses : DSp} {a__law_uses : Addr} {fd__law_uses : FuncData} (n__law_uses : Fn K mg "_law_uses" s__law_uses P__law_uses a__law_uses fd__law_uses) (G__law_uses : FnOk P w K mg base CX0 k a__law_uses fd__law_uses P__law_uses (liftSp K sp__law_uses))
    (cdv : Value) (A : Around) (outer : List Env) (s : Shared) (H : Hp) (E : XK) (hr : Room k (A.deeper (envOfC "_law_uses" (defScope s__law_uses) s.heap.objs.size f cdv))) :
    DSs MT (cxOf CX0 P w K mg base N__law_uses "_law_uses" (defScope s__law_uses) f cdv A outer s H E).nox (defBody s__law_uses) (g__law_uses sp__law_uses) :=
  (dss_cons (ds_set (i := 3) sc__law_uses.nd rfl (by first | exact Or.inl rfl | exact Or.inr rfl) (de_lstO da_nil)) (dss_cons (ds_if (dt_cmp (od_eq hr.u200) (de_var 0) (de_var 1) (nomark _)) (dss_one (ds_expr (de_bm PySem.F.plainAttrs_list PySem.F.slot_list_append PySem.F.type_list_append md_append (de_var 3) (da_cons (de_lst da_nil) da_nil)))) dss_nil) (dss_cons (ds_if (dt_cmp (od_eq hr.u200) (de_ix (de_var 0) de_int) de_str (nomark _)) (dss_one (ds_set (i := 3) sc__law_uses.nd rfl (by first | exact Or.inl rfl | exact Or.inr rfl) (de_op od_catO (de_var 3) (de_lc (by rfl) sc__law_uses.nd (di_list (de_callN n__law_uses G__law_uses hr (by rfl) (da_cons (de_ix (de_var 0) de_int) (da_cons (de_var 1) (da_cons (de_var 2) da_nil))))) (blkOk_by (own := [("_law_moves", 4)]) (N := N__law_uses) (sc := defScope s__law_uses) (by decide +kernel)) (fun _ _ _ _ _ => (dp_name (i := 4) sc__law_uses.nd (by rfl) (by first | exact Or.inl rfl | exact Or.inr rfl))) (fun _ _ _ _ _ => dts_nil) (fun _ _ _ _ _ => (de_op od_add (de_lst (da_cons (de_ix (de_var 0) de_int) da_nil)) (de_var 4))))))) dss_nil) (dss_cons (ds_if (dt_cmp (od_eq hr.u200) (de_ix (de_var 0) de_int) de_str (nomark _)) (dss_cons (ds_set (i := 3) sc__law_uses.nd rfl (by first | exact Or.inl rfl | exact Or.inr rfl) (de_op od_catO (de_var 3) (de_lc (by rfl) sc__law_uses.nd (di_list (de_callN n__law_uses G__law_uses hr (by rfl) (da_cons (de_ix (de_var 0) de_int) (da_cons (de_var 1) (da_cons (de_var 2) da_nil))))) (blkOk_by (own := [("_law_moves", 4)]) (N := N__law_uses) (sc := defScope s__law_uses) (by decide +kernel)) (fun _ _ _ _ _ => (dp_name (i := 4) sc__law_uses.nd (by rfl) (by first | exact Or.inl rfl | exact Or.inr rfl))) (fun _ _ _ _ _ => dts_nil) (fun _ _ _ _ _ => (de_op od_add (de_lst (da_cons de_int da_nil)) (de_var 4)))))) (dss_one (ds_set (i := 3) sc__law_uses.nd rfl (by first | exact Or.inl rfl | exact Or.inr rfl) (de_op od_catO (de_var 3) (de_lc (by rfl) sc__law_uses.nd (di_list (de_callN n__law_uses G__law_uses hr (by rfl) (da_cons (de_ix (de_var 0) de_int) (da_cons (de_var 1) (da_cons (de_var 2) da_nil))))) (blkOk_by (own := [("_law_moves", 4)]) (N := N__law_uses) (sc := defScope s__law_uses) (by decide +kernel)) (fun _ _ _ _ _ => (dp_name (i := 4) sc__law_uses.nd (by rfl) (by first | exact Or.inl rfl | exact Or.inr rfl))) (fun _ _ _ _ _ => dts_nil) (fun _ _ _ _ _ => (de_op od_add (de_lst (da_cons de_int da_nil)) (de_var 4)))))))) dss_nil) (dss_one (ds_retF (de_var 3)))))))
/-! ### _law_used -/
abbrev s__law_used : Stmt := topS 23
abbrev N__law_used : List Str := ["_law_pool_here", "_law_known", "_law_goal", "_law_room", "_law_some", "_law_name", "_law_kind_here", "_law_moves", "_law_found", "_law_move"]
abbrev P__law_used : List Str := ["_law_pool_here", "_law_known", "_law_goal", "_law_room"]
theorem sc__law_used : FnScope N__law_used P__law_used (defScope s__law_used) := ⟨rfl, rfl, rfl, by decide +kernel, rfl, by decide +kernel, by decide +kernel⟩
def g__law_used (sp__law_seen sp__law_uses sp__law_take sp__law_program : DSp) : GS :=
  (gSeq (gSet (fLst fNil) 4) (gSeq (gFor (fiList (fCall sp__law_seen (fCons (fVar 1) fNil))) (.tp [(.nm 5), (.nm 6)]) (gSet (fOp rAddD (fVar 4) (fLc (fiList (fCall sp__law_uses (fCons (fVar 6) (fCons (fVar 2) (fCons (fVar 5) fNil))))) (.nm 7) fYes (fTup (fCons (fVar 5) (fCons (fVar 7) fNil))) [7])) 4)) (gSeq (gIf (fTest (fOp (rEqD false) (fVar 4) (fLst fNil))) (gRet (fC .non)) gNext) (gSeq (gAsg (fOp rIxD (fVar 4) (fCall sp__law_take (fCons (fVar 0) (fCons (fCB rLenD (fCons (fVar 4) fNil)) fNil)))) (.tp [(.nm 5), (.nm 7)])) (gSeq (gSet (fTup (fCons (fC (.str "name")) (fCons (fVar 5) fNil))) 8) (gSeq (gFor (fiList (fVar 7)) (.nm 9) (gIf (fOr (fTest (fOp (rEqD false) (fVar 9) (fC (.int 1)))) (fTest (fOp (rEqD false) (fVar 9) (fC (.int 2))))) (gSet (fTup (fCons (fOp rIxD (fLst (fCons (fC (.str "first")) (fCons (fC (.str "second")) fNil))) (fOp rSubD (fVar 9) (fC (.int 1)))) (fCons (fVar 8) fNil))) 8) (gSet (fTup (fCons (fC (.str "give")) (fCons (fVar 8) (fCons (fCall sp__law_program (fCons (fVar 0) (fCons (fVar 1) (fCons (fVar 9) (fCons (fOp rSubD (fVar 3) (fC (.int 1))) fNil))))) fNil)))) 8))) (gRet (fVar 8))))))))
theorem der__law_used {P : Program} {w : World} {K : PySem.W.Frag} {mg : Str → Option Value} {base : Heap} {k : Nat} {f : Addr} {sp__law_seen sp__law_uses sp__law_take sp__law_program : DSp} {a__law_seen : Addr} {fd__law_seen : FuncData} (n__law_seen : Fn K mg "_law_seen" s__law_seen P__law_seen a__law_seen fd__law_seen) (G__law_seen : FnOk P w K mg base CX0 k a__law_seen fd__law_seen P__law_seen (liftSp K sp__law_seen)) {a__law_uses : Addr} {fd__law_uses : FuncData} (n__law_uses : Fn K mg "_law_uses" s__law_uses P__law_uses a__law_uses fd__law_uses) (G__law_uses : FnOk P w K mg base CX0 k a__law_uses fd__law_uses P__law_uses (liftSp K sp__law_uses)) {a__law_take : Addr} {fd__law_take : FuncData} (n__law_take : Fn K mg "_law_take" s__law_take P__law_take a__law_take fd__law_take) (G__law_take : FnOk P w K mg base CX0 k a__law_take fd__law_take P__law_take (liftSp K sp__law_take)) {a__law_program : Addr} {fd__law_program : FuncData} (n__law_program : Fn K mg "_law_program" s__law_program P__law_program a__law_program fd__law_program) (G__law_program : FnOk P w K mg base CX0 k a__law_program fd__law_program P__law_program (liftSp K sp__law_program)) (m_len : mg "len" = none)
    (cdv : Value) (A : Around) (outer : List Env) (s : Shared) (H : Hp) (E : XK) (hr : Room k (A.deeper (envOfC "_law_used" (defScope s__law_used) s.heap.objs.size f cdv))) :
    DSs MT (cxOf CX0 P w K mg base N__law_used "_law_used" (defScope s__law_used) f cdv A outer s H E).nox (defBody s__law_used) (g__law_used sp__law_seen sp__law_uses sp__law_take sp__law_program) :=
  (dss_cons (ds_set (i := 4) sc__law_used.nd rfl (by first | exact Or.inl rfl | exact Or.inr rfl) (de_lst da_nil)) (dss_cons (ds_for PassesOwn.never rfl (di_list (de_callN n__law_seen G__law_seen hr (by rfl) (da_cons (de_var 1) da_nil))) (dp_tup (by rfl) (dps_cons (dp_name (i := 5) sc__law_used.nd (by rfl) (by first | exact Or.inl rfl | exact Or.inr rfl)) (dps_cons (dp_name (i := 6) sc__law_used.nd (by rfl) (by first | exact Or.inl rfl | exact Or.inr rfl)) dps_nil))) (dss_one (ds_set (i := 4) sc__law_used.nd rfl (by first | exact Or.inl rfl | exact Or.inr rfl) (de_op od_add (de_var 4) (de_lc (by rfl) sc__law_used.nd (di_list (de_callN n__law_uses G__law_uses hr (by rfl) (da_cons (de_var 6) (da_cons (de_var 2) (da_cons (de_var 5) da_nil))))) (blkOk_by (own := [("_law_moves", 7)]) (N := N__law_used) (sc := defScope s__law_used) (by decide +kernel)) (fun _ _ _ _ _ => (dp_name (i := 7) sc__law_used.nd (by rfl) (by first | exact Or.inl rfl | exact Or.inr rfl))) (fun _ _ _ _ _ => dts_nil) (fun _ _ _ _ _ => (de_tup (da_cons (de_var 5) (da_cons (de_var 7) da_nil))))))))) (dss_cons (ds_if (dt_cmp (od_eq hr.u200) (de_var 4) (de_lst da_nil) (nomark _)) (dss_one (ds_ret de_non)) dss_nil) (dss_cons (ds_asg (de_ix (de_var 4) (de_callN n__law_take G__law_take hr (by rfl) (da_cons (de_var 0) (da_cons (de_callB cd_len (by rfl) m_len bb_len (da_cons (de_var 4) da_nil)) da_nil)))) (dp_tup (by rfl) (dps_cons (dp_name (i := 5) sc__law_used.nd (by rfl) (by first | exact Or.inl rfl | exact Or.inr rfl)) (dps_cons (dp_name (i := 7) sc__law_used.nd (by rfl) (by first | exact Or.inl rfl | exact Or.inr rfl)) dps_nil)))) (dss_cons (ds_set (i := 8) sc__law_used.nd rfl (by first | exact Or.inl rfl | exact Or.inr rfl) (de_tup (da_cons de_str (da_cons (de_var 5) da_nil)))) (dss_cons (ds_for PassesOwn.never rfl (di_list (de_var 7)) (dp_name (i := 9) sc__law_used.nd (by rfl) (by first | exact Or.inl rfl | exact Or.inr rfl)) (dss_one (ds_if (dt_of (dw_or (dt_cmp (od_eq hr.u200) (de_var 9) de_int (nomark _)) (dw_or1 (dt_cmp (od_eq hr.u200) (de_var 9) de_int (nomark _))))) (dss_one (ds_set (i := 8) sc__law_used.nd rfl (by first | exact Or.inl rfl | exact Or.inr rfl) (de_tup (da_cons (de_ix (de_lst (da_cons de_str (da_cons de_str da_nil))) (de_op od_sub (de_var 9) de_int)) (da_cons (de_var 8) da_nil))))) (dss_one (ds_set (i := 8) sc__law_used.nd rfl (by first | exact Or.inl rfl | exact Or.inr rfl) (de_tup (da_cons de_str (da_cons (de_var 8) (da_cons (de_callN n__law_program G__law_program hr (by rfl) (da_cons (de_var 0) (da_cons (de_var 1) (da_cons (de_var 9) (da_cons (de_op od_sub (de_var 3) de_int) da_nil))))) da_nil))))))))) (dss_one (ds_ret (de_var 8)))))))))
/-! ### _law_made -/
abbrev s__law_made : Stmt := topS 24
abbrev N__law_made : List Str := ["_law_pool_here", "_law_known", "_law_goal", "_law_room", "_law_name"]
abbrev P__law_made : List Str := ["_law_pool_here", "_law_known", "_law_goal", "_law_room"]
theorem sc__law_made : FnScope N__law_made P__law_made (defScope s__law_made) := ⟨rfl, rfl, rfl, by decide +kernel, rfl, by decide +kernel, by decide +kernel⟩
def g__law_made (sp__law_program sp__law_take : DSp) : GS :=
  (gSeq (gIf (fTest (fOp (rEqD false) (fOp rIxD (fVar 2) (fC (.int 0))) (fC (.str "one")))) (gRet (fTup (fCons (fC (.str "thing")) fNil))) gNext) (gSeq (gIf (fTest (fOp (rEqD false) (fOp rIxD (fVar 2) (fC (.int 0))) (fC (.str "mark")))) (gRet (fTup (fCons (fC (.str "name")) (fCons (fOp rIxD (fLst (fCons (fC (.str "p")) (fCons (fC (.str "q")) fNil))) (fCB rInt1 (fCons (fOp (rEqD false) (fOp rIxD (fVar 2) (fC (.int 1))) (fC (.str "b"))) fNil))) fNil)))) gNext) (gSeq (gIf (fTest (fOp (rEqD false) (fOp rIxD (fVar 2) (fC (.int 0))) (fC (.str "both")))) (gRet (fTup (fCons (fC (.str "pair")) (fCons (fCall sp__law_program (fCons (fVar 0) (fCons (fVar 1) (fCons (fOp rIxD (fVar 2) (fC (.int 1))) (fCons (fVar 3) fNil))))) (fCons (fCall sp__law_program (fCons (fVar 0) (fCons (fVar 1) (fCons (fOp rIxD (fVar 2) (fC (.int 2))) (fCons (fVar 3) fNil))))) fNil))))) gNext) (gSeq (gSet (fOp rIxD (fLst (fCons (fC (.str "u")) (fCons (fC (.str "v")) (fCons (fC (.str "x0")) (fCons (fC (.str "x7")) (fCons (fC (.str "f")) fNil)))))) (fCall sp__law_take (fCons (fVar 0) (fCons (fC (.int 5)) fNil)))) 4) (gRet (fTup (fCons (fC (.str "take")) (fCons (fVar 4) (fCons (fOp rIxD (fVar 2) (fC (.int 1))) (fCons (fCall sp__law_program (fCons (fVar 0) (fCons (fOp rAddD (fVar 1) (fLst (fCons (fTup (fCons (fVar 4) (fCons (fOp rIxD (fVar 2) (fC (.int 1))) fNil))) fNil))) (fCons (fOp rIxD (fVar 2) (fC (.int 2))) (fCons (fVar 3) fNil))))) fNil))))))))))
theorem der__law_made {P : Program} {w : World} {K : PySem.W.Frag} {mg : Str → Option Value} {base : Heap} {k : Nat} {f : Addr} {sp__law_program sp__law_take : DSp} {a__law_program : Addr} {fd__law_program : FuncData} (n__law_program : Fn K mg "_law_program" s__law_program P__law_program a__law_program fd__law_program) (G__law_program : FnOk P w K mg base CX0 k a__law_program fd__law_program P__law_program (liftSp K sp__law_program)) {a__law_take : Addr} {fd__law_take : FuncData} (n__law_take : Fn K mg "_law_take" s__law_take P__law_take a__law_take fd__law_take) (G__law_take : FnOk P w K mg base CX0 k a__law_take fd__law_take P__law_take (liftSp K sp__law_take)) (m_int : mg "int" = none)
    (cdv : Value) (A : Around) (outer : List Env) (s : Shared) (H : Hp) (E : XK) (hr : Room k (A.deeper (envOfC "_law_made" (defScope s__law_made) s.heap.objs.size f cdv))) :
    DSs MT (cxOf CX0 P w K mg base N__law_made "_law_made" (defScope s__law_made) f cdv A outer s H E).nox (defBody s__law_made) (g__law_made sp__law_program sp__law_take) :=
  (dss_cons (ds_if (dt_cmp (od_eq hr.u200) (de_ix (de_var 2) de_int) de_str (nomark _)) (dss_one (ds_ret (de_tup (da_cons de_str da_nil)))) dss_nil) (dss_cons (ds_if (dt_cmp (od_eq hr.u200) (de_ix (de_var 2) de_int) de_str (nomark _)) (dss_one (ds_ret (de_tup (da_cons de_str (da_cons (de_ix (de_lst (da_cons de_str (da_cons de_str da_nil))) (de_callTy cd_int1 (by rfl) m_int bb_int (da_cons (de_cmp (od_eq hr.u200) (de_ix (de_var 2) de_int) de_str (nomark _)) da_nil))) da_nil))))) dss_nil) (dss_cons (ds_if (dt_cmp (od_eq hr.u200) (de_ix (de_var 2) de_int) de_str (nomark _)) (dss_one (ds_ret (de_tup (da_cons de_str (da_cons (de_callN n__law_program G__law_program hr (by rfl) (da_cons (de_var 0) (da_cons (de_var 1) (da_cons (de_ix (de_var 2) de_int) (da_cons (de_var 3) da_nil))))) (da_cons (de_callN n__law_program G__law_program hr (by rfl) (da_cons (de_var 0) (da_cons (de_var 1) (da_cons (de_ix (de_var 2) de_int) (da_cons (de_var 3) da_nil))))) da_nil)))))) dss_nil) (dss_cons (ds_set (i := 4) sc__law_made.nd rfl (by first | exact Or.inl rfl | exact Or.inr rfl) (de_ix (de_lst (da_cons de_str (da_cons de_str (da_cons de_str (da_cons de_str (da_cons de_str da_nil)))))) (de_callN n__law_take G__law_take hr (by rfl) (da_cons (de_var 0) (da_cons de_int da_nil))))) (dss_one (ds_ret (de_tup (da_cons de_str (da_cons (de_var 4) (da_cons (de_ix (de_var 2) de_int) (da_cons (de_callN n__law_program G__law_program hr (by rfl) (da_cons (de_var 0) (da_cons (de_op od_add (de_var 1) (de_lst (da_cons (de_tup (da_cons (de_var 4) (da_cons (de_ix (de_var 2) de_int) da_nil))) da_nil))) (da_cons (de_ix (de_var 2) de_int) (da_cons (de_var 3) da_nil))))) da_nil)))))))))))
/-! ### _law_program -/
abbrev s__law_program : Stmt := topS 25
abbrev N__law_program : List Str := ["_law_pool_here", "_law_known", "_law_goal", "_law_room", "_law_way", "_law_name", "_law_kind_here", "_law_body", "_law_some", "_law_found"]
abbrev P__law_program : List Str := ["_law_pool_here", "_law_known", "_law_goal", "_law_room"]
theorem sc__law_program : FnScope N__law_program P__law_program (defScope s__law_program) := ⟨rfl, rfl, rfl, by decide +kernel, rfl, by decide +kernel, by decide +kernel⟩
def g__law_program (sp__law_take sp__law_kind sp__law_program sp__law_used sp__law_made : DSp) : GS :=
  (gSeq (gSet (fCall sp__law_take (fCons (fVar 0) (fCons (fC (.int 8)) fNil))) 4) (gSeq (gIf (fAnd (fTest (fOp rGtD (fVar 3) (fC (.int 0)))) (fTest (fOp rLtD (fVar 4) (fC (.int 2))))) (gSeq (gSet (fOp rIxD (fLst (fCons (fC (.str "u")) (fCons (fC (.str "v")) (fCons (fC (.str "x0")) (fCons (fC (.str "x7")) (fCons (fC (.str "f")) fNil)))))) (fCall sp__law_take (fCons (fVar 0) (fCons (fC (.int 5)) fNil)))) 5) (gSeq (gSet (fCall sp__law_kind (fCons (fVar 0) (fCons (fOp rAddD (fC (.int 1)) (fCall sp__law_take (fCons (fVar 0) (fCons (fC (.int 3)) fNil)))) (fCons (fLst (fCons (fC (.str "a")) (fCons (fC (.str "b")) fNil))) fNil)))) 6) (gSeq (gSet (fCall sp__law_program (fCons (fVar 0) (fCons (fOp rAddD (fVar 1) (fLst (fCons (fTup (fCons (fVar 5) (fCons (fVar 6) fNil))) fNil))) (fCons (fVar 2) (fCons (fOp rSubD (fVar 3) (fC (.int 1))) fNil))))) 7) (gRet (fTup (fCons (fC (.str "give")) (fCons (fTup (fCons (fC (.str "take")) (fCons (fVar 5) (fCons (fVar 6) (fCons (fVar 7) fNil))))) (fCons (fCall sp__law_program (fCons (fVar 0) (fCons (fVar 1) (fCons (fVar 6) (fCons (fOp rSubD (fVar 3) (fC (.int 1))) fNil))))) fNil)))))))) gNext) (gSeq (gIf (fAnd (fTest (fOp rGtD (fVar 3) (fC (.int 0)))) (fTest (fOp (rEqD false) (fVar 4) (fC (.int 2))))) (gSeq (gSet (fCall sp__law_kind (fCons (fVar 0) (fCons (fOp rAddD (fC (.int 1)) (fCall sp__law_take (fCons (fVar 0) (fCons (fC (.int 2)) fNil)))) (fCons (fLst (fCons (fC (.str "a")) (fCons (fC (.str "b")) fNil))) fNil)))) 6) (gSeq (gSet (fLst (fCons (fCall sp__law_program (fCons (fVar 0) (fCons (fVar 1) (fCons (fVar 2) (fCons (fOp rSubD (fVar 3) (fC (.int 1))) fNil))))) (fCons (fCall sp__law_program (fCons (fVar 0) (fCons (fVar 1) (fCons (fVar 6) (fCons (fOp rSubD (fVar 3) (fC (.int 1))) fNil))))) fNil))) 8) (gSeq (gIf (fTest (fOp (rEqD false) (fCall sp__law_take (fCons (fVar 0) (fCons (fC (.int 2)) fNil))) (fC (.int 0)))) (gRet (fTup (fCons (fC (.str "first")) (fCons (fTup (fCons (fC (.str "pair")) (fCons (fOp rIxD (fVar 8) (fC (.int 0))) (fCons (fOp rIxD (fVar 8) (fC (.int 1))) fNil)))) fNil)))) gNext) (gRet (fTup (fCons (fC (.str "second")) (fCons (fTup (fCons (fC (.str "pair")) (fCons (fOp rIxD (fVar 8) (fC (.int 1))) (fCons (fOp rIxD (fVar 8) (fC (.int 0))) fNil)))) fNil))))))) gNext) (gSeq (gSet (fC .non) 9) (gSeq (gIf (fAnd (fTest (fOp rGtD (fVar 3) (fC (.int 0)))) (fTest (fOp rLtD (fVar 4) (fC (.int 6))))) (gSet (fCall sp__law_used (fCons (fVar 0) (fCons (fVar 1) (fCons (fVar 2) (fCons (fVar 3) fNil))))) 9) gNext) (gSeq (gIf (fTest (fOp (rIsN false) (fVar 9) (fC .non))) (gSet (fCall sp__law_made (fCons (fVar 0) (fCons (fVar 1) (fCons (fVar 2) (fCons (fVar 3) fNil))))) 9) gNext) (gRet (fVar 9))))))))
theorem der__law_program {P : Program} {w : World} {K : PySem.W.Frag} {mg : Str → Option Value} {base : Heap} {k : Nat} {f : Addr} {sp__law_take sp__law_kind sp__law_program sp__law_used sp__law_made : DSp} {a__law_take : Addr} {fd__law_take : FuncData} (n__law_take : Fn K mg "_law_take" s__law_take P__law_take a__law_take fd__law_take) (G__law_take : FnOk P w K mg base CX0 k a__law_take fd__law_take P__law_take (liftSp K sp__law_take)) {a__law_kind : Addr} {fd__law_kind : FuncData} (n__law_kind : Fn K mg "_law_kind" s__law_kind P__law_kind a__law_kind fd__law_kind) (G__law_kind : FnOk P w K mg base CX0 k a__law_kind fd__law_kind P__law_kind (liftSp K sp__law_kind)) {a__law_program : Addr} {fd__law_program : FuncData} (n__law_program : Fn K mg "_law_program" s__law_program P__law_program a__law_program fd__law_program) (G__law_program : FnOk P w K mg base CX0 k a__law_program fd__law_program P__law_program (liftSp K sp__law_program)) {a__law_used : Addr} {fd__law_used : FuncData} (n__law_used : Fn K mg "_law_used" s__law_used P__law_used a__law_used fd__law_used) (G__law_used : FnOk P w K mg base CX0 k a__law_used fd__law_used P__law_used (liftSp K sp__law_used)) {a__law_made : Addr} {fd__law_made : FuncData} (n__law_made : Fn K mg "_law_made" s__law_made P__law_made a__law_made fd__law_made) (G__law_made : FnOk P w K mg base CX0 k a__law_made fd__law_made P__law_made (liftSp K sp__law_made))
    (cdv : Value) (A : Around) (outer : List Env) (s : Shared) (H : Hp) (E : XK) (hr : Room k (A.deeper (envOfC "_law_program" (defScope s__law_program) s.heap.objs.size f cdv))) :
    DSs MT (cxOf CX0 P w K mg base N__law_program "_law_program" (defScope s__law_program) f cdv A outer s H E).nox (defBody s__law_program) (g__law_program sp__law_take sp__law_kind sp__law_program sp__law_used sp__law_made) :=
  (dss_cons (ds_set (i := 4) sc__law_program.nd rfl (by first | exact Or.inl rfl | exact Or.inr rfl) (de_callN n__law_take G__law_take hr (by rfl) (da_cons (de_var 0) (da_cons de_int da_nil)))) (dss_cons (ds_if (dt_of (dw_and (dt_cmp od_gt (de_var 3) de_int (nomark _)) (dw_and1 (dt_cmp od_lt (de_var 4) de_int (nomark _))))) (dss_cons (ds_set (i := 5) sc__law_program.nd rfl (by first | exact Or.inl rfl | exact Or.inr rfl) (de_ix (de_lst (da_cons de_str (da_cons de_str (da_cons de_str (da_cons de_str (da_cons de_str da_nil)))))) (de_callN n__law_take G__law_take hr (by rfl) (da_cons (de_var 0) (da_cons de_int da_nil))))) (dss_cons (ds_set (i := 6) sc__law_program.nd rfl (by first | exact Or.inl rfl | exact Or.inr rfl) (de_callN n__law_kind G__law_kind hr (by rfl) (da_cons (de_var 0) (da_cons (de_op od_add de_int (de_callN n__law_take G__law_take hr (by rfl) (da_cons (de_var 0) (da_cons de_int da_nil)))) (da_cons (de_lst (da_cons de_str (da_cons de_str da_nil))) da_nil))))) (dss_cons (ds_set (i := 7) sc__law_program.nd rfl (by first | exact Or.inl rfl | exact Or.inr rfl) (de_callN n__law_program G__law_program hr (by rfl) (da_cons (de_var 0) (da_cons (de_op od_add (de_var 1) (de_lst (da_cons (de_tup (da_cons (de_var 5) (da_cons (de_var 6) da_nil))) da_nil))) (da_cons (de_var 2) (da_cons (de_op od_sub (de_var 3) de_int) da_nil)))))) (dss_one (ds_ret (de_tup (da_cons de_str (da_cons (de_tup (da_cons de_str (da_cons (de_var 5) (da_cons (de_var 6) (da_cons (de_var 7) da_nil))))) (da_cons (de_callN n__law_program G__law_program hr (by rfl) (da_cons (de_var 0) (da_cons (de_var 1) (da_cons (de_var 6) (da_cons (de_op od_sub (de_var 3) de_int) da_nil))))) da_nil))))))))) dss_nil) (dss_cons (ds_if (dt_of (dw_and (dt_cmp od_gt (de_var 3) de_int (nomark _)) (dw_and1 (dt_cmp (od_eq hr.u200) (de_var 4) de_int (nomark _))))) (dss_cons (ds_set (i := 6) sc__law_program.nd rfl (by first | exact Or.inl rfl | exact Or.inr rfl) (de_callN n__law_kind G__law_kind hr (by rfl) (da_cons (de_var 0) (da_cons (de_op od_add de_int (de_callN n__law_take G__law_take hr (by rfl) (da_cons (de_var 0) (da_cons de_int da_nil)))) (da_cons (de_lst (da_cons de_str (da_cons de_str da_nil))) da_nil))))) (dss_cons (ds_set (i := 8) sc__law_program.nd rfl (by first | exact Or.inl rfl | exact Or.inr rfl) (de_lst (da_cons (de_callN n__law_program G__law_program hr (by rfl) (da_cons (de_var 0) (da_cons (de_var 1) (da_cons (de_var 2) (da_cons (de_op od_sub (de_var 3) de_int) da_nil))))) (da_cons (de_callN n__law_program G__law_program hr (by rfl) (da_cons (de_var 0) (da_cons (de_var 1) (da_cons (de_var 6) (da_cons (de_op od_sub (de_var 3) de_int) da_nil))))) da_nil)))) (dss_cons (ds_if (dt_cmp (od_eq hr.u200) (de_callN n__law_take G__law_take hr (by rfl) (da_cons (de_var 0) (da_cons de_int da_nil))) de_int (nomark _)) (dss_one (ds_ret (de_tup (da_cons de_str (da_cons (de_tup (da_cons de_str (da_cons (de_ix (de_var 8) de_int) (da_cons (de_ix (de_var 8) de_int) da_nil)))) da_nil))))) dss_nil) (dss_one (ds_ret (de_tup (da_cons de_str (da_cons (de_tup (da_cons de_str (da_cons (de_ix (de_var 8) de_int) (da_cons (de_ix (de_var 8) de_int) da_nil)))) da_nil)))))))) dss_nil) (dss_cons (ds_set (i := 9) sc__law_program.nd rfl (by first | exact Or.inl rfl | exact Or.inr rfl) de_non) (dss_cons (ds_if (dt_of (dw_and (dt_cmp od_gt (de_var 3) de_int (nomark _)) (dw_and1 (dt_cmp od_lt (de_var 4) de_int (nomark _))))) (dss_one (ds_set (i := 9) sc__law_program.nd rfl (by first | exact Or.inl rfl | exact Or.inr rfl) (de_callN n__law_used G__law_used hr (by rfl) (da_cons (de_var 0) (da_cons (de_var 1) (da_cons (de_var 2) (da_cons (de_var 3) da_nil))))))) dss_nil) (dss_cons (ds_if (dt_cmp od_is (de_var 9) de_non (nomark _)) (dss_one (ds_set (i := 9) sc__law_program.nd rfl (by first | exact Or.inl rfl | exact Or.inr rfl) (de_callN n__law_made G__law_made hr (by rfl) (da_cons (de_var 0) (da_cons (de_var 1) (da_cons (de_var 2) (da_cons (de_var 3) da_nil))))))) dss_nil) (dss_one (ds_ret (de_var 9)))))))))
/-! ### _law_row -/
abbrev s__law_row : Stmt := topS 26
abbrev N__law_row : List Str := ["_law_pool_here", "_law_row_here", "_law_name"]
abbrev P__law_row : List Str := ["_law_pool_here"]
theorem sc__law_row : FnScope N__law_row P__law_row (defScope s__law_row) := ⟨rfl, rfl, rfl, by decide +kernel, rfl, by decide +kernel, by decide +kernel⟩
def g__law_row (sp__law_take sp__law_kind : DSp) : GS :=
  (gSeq (gSet (fLstO (fCons (fTup (fCons (fC (.str "p")) (fCons (fTup (fCons (fC (.str "mark")) (fCons (fC (.str "a")) fNil))) fNil))) (fCons (fTup (fCons (fC (.str "q")) (fCons (fTup (fCons (fC (.str "mark")) (fCons (fC (.str "b")) fNil))) fNil))) fNil))) 1) (gSeq (gFor (fiList (fSl rSlD (fLst (fCons (fC (.str "f")) (fCons (fC (.str "g")) fNil))) fNoPart (fPart (fCall sp__law_take (fCons (fVar 0) (fCons (fC (.int 3)) fNil)))))) (.nm 2) (gDrop (fBM "list" rAppendD (fVar 1) (fCons (fTup (fCons (fVar 2) (fCons (fCall sp__law_kind (fCons (fVar 0) (fCons (fOp rAddD (fC (.int 1)) (fCall sp__law_take (fCons (fVar 0) (fCons (fC (.int 4)) fNil)))) (fCons (fLst (fCons (fC (.str "a")) (fCons (fC (.str "b")) fNil))) fNil)))) fNil))) fNil)))) (gRetF (fVar 1))))
theorem der__law_row {P : Program} {w : World} {K : PySem.W.Frag} {mg : Str → Option Value} {base : Heap} {k : Nat} {f : Addr} {sp__law_take sp__law_kind : DSp} {a__law_take : Addr} {fd__law_take : FuncData} (n__law_take : Fn K mg "_law_take" s__law_take P__law_take a__law_take fd__law_take) (G__law_take : FnOk P w K mg base CX0 k a__law_take fd__law_take P__law_take (liftSp K sp__law_take)) {a__law_kind : Addr} {fd__law_kind : FuncData} (n__law_kind : Fn K mg "_law_kind" s__law_kind P__law_kind a__law_kind fd__law_kind) (G__law_kind : FnOk P w K mg base CX0 k a__law_kind fd__law_kind P__law_kind (liftSp K sp__law_kind))
    (cdv : Value) (A : Around) (outer : List Env) (s : Shared) (H : Hp) (E : XK) (hr : Room k (A.deeper (envOfC "_law_row" (defScope s__law_row) s.heap.objs.size f cdv))) :
    DSs MT (cxOf CX0 P w K mg base N__law_row "_law_row" (defScope s__law_row) f cdv A outer s H E).nox (defBody s__law_row) (g__law_row sp__law_take sp__law_kind) :=
  (dss_cons (ds_set (i := 1) sc__law_row.nd rfl (by first | exact Or.inl rfl | exact Or.inr rfl) (de_lstO (da_cons (de_tup (da_cons de_str (da_cons (de_tup (da_cons de_str (da_cons de_str da_nil))) da_nil))) (da_cons (de_tup (da_cons de_str (da_cons (de_tup (da_cons de_str (da_cons de_str da_nil))) da_nil))) da_nil)))) (dss_cons (ds_for PassesOwn.never rfl (di_list (de_slice (de_lst (da_cons de_str (da_cons de_str da_nil))) do_none (do_some (de_callN n__law_take G__law_take hr (by rfl) (da_cons (de_var 0) (da_cons de_int da_nil)))))) (dp_name (i := 2) sc__law_row.nd (by rfl) (by first | exact Or.inl rfl | exact Or.inr rfl)) (dss_one (ds_expr (de_bm PySem.F.plainAttrs_list PySem.F.slot_list_append PySem.F.type_list_append md_append (de_var 1) (da_cons (de_tup (da_cons (de_var 2) (da_cons (de_callN n__law_kind G__law_kind hr (by rfl) (da_cons (de_var 0) (da_cons (de_op od_add de_int (de_callN n__law_take G__law_take hr (by rfl) (da_cons (de_var 0) (da_cons de_int da_nil)))) (da_cons (de_lst (da_cons de_str (da_cons de_str da_nil))) da_nil)))) da_nil))) da_nil))))) (dss_one (ds_retF (de_var 1)))))
/-! ### _law_many -/
abbrev s__law_many : Stmt := topS 27
abbrev N__law_many : List Str := ["_law_program_here", "_law_row_here", "_law_many_here", "_law_one", "_law_part"]
abbrev P__law_many : List Str := ["_law_program_here"]
theorem sc__law_many : FnScope N__law_many P__law_many (defScope s__law_many) := ⟨rfl, rfl, rfl, by decide +kernel, rfl, by decide +kernel, by decide +kernel⟩
def g__law_many (sp__law_words : DSp) : GS :=
  (gSeq (gSet (fLstO (fCons (fVar 0) fNil)) 1) (gSeq (gSet (fC (.int 0)) 2) (gSeq (gWhile (fTest (fOp (rEqD true) (fVar 1) (fLst fNil))) (gSeq (gSet (fBM0 "list" rPopD (fVar 1)) 3) (gSeq (gSet (fOp rAddD (fVar 2) (fC (.int 1))) 2) (gDrop (fBM "list" rExtendD (fVar 1) (fCons (fLc (fiTup (fVar 3)) (.nm 4) (fAnd (fTest (fCB rIsiD (fCons (fVar 4) (fCons (fC (.ty "tuple")) fNil)))) (fTest (fOp (rInD false) (fOp rIxD (fVar 4) (fC (.int 0))) (fCall sp__law_words fNil)))) (fVar 4) [4]) fNil)))))) (gRet (fVar 2)))))
theorem der__law_many {P : Program} {w : World} {K : PySem.W.Frag} {mg : Str → Option Value} {base : Heap} {k : Nat} {f : Addr} {sp__law_words : DSp} {a__law_words : Addr} {fd__law_words : FuncData} (n__law_words : Fn K mg "_law_words" s__law_words P__law_words a__law_words fd__law_words) (G__law_words : FnOk P w K mg base CX0 k a__law_words fd__law_words P__law_words (liftSp K sp__law_words)) (m_tuple : mg "tuple" = none) (m_isinstance : mg "isinstance" = none)
    (cdv : Value) (A : Around) (outer : List Env) (s : Shared) (H : Hp) (E : XK) (hr : Room k (A.deeper (envOfC "_law_many" (defScope s__law_many) s.heap.objs.size f cdv))) :
    DSs MT (cxOf CX0 P w K mg base N__law_many "_law_many" (defScope s__law_many) f cdv A outer s H E).nox (defBody s__law_many) (g__law_many sp__law_words) :=
  (dss_cons (ds_set (i := 1) sc__law_many.nd rfl (by first | exact Or.inl rfl | exact Or.inr rfl) (de_lstO (da_cons (de_var 0) da_nil))) (dss_cons (ds_set (i := 2) sc__law_many.nd rfl (by first | exact Or.inl rfl | exact Or.inr rfl) de_int) (dss_cons (ds_while PassesOwn.never (dt_cmp (od_ne hr.u200) (de_var 1) (de_lst da_nil) (nomark _)) (dss_cons (ds_set (i := 3) sc__law_many.nd rfl (by first | exact Or.inl rfl | exact Or.inr rfl) (de_bm0 PySem.F.plainAttrs_list PySem.F.slot_list_pop PySem.F.type_list_pop md_pop (de_var 1))) (dss_cons (ds_set (i := 2) sc__law_many.nd rfl (by first | exact Or.inl rfl | exact Or.inr rfl) (de_op od_add (de_var 2) de_int)) (dss_one (ds_expr (de_bm PySem.F.plainAttrs_list PySem.F.slot_list_extend PySem.F.type_list_extend md_extend (de_var 1) (da_cons (de_lc (by rfl) sc__law_many.nd (di_tup (de_var 3)) (blkOk_by (own := [("_law_part", 4)]) (N := N__law_many) (sc := defScope s__law_many) (by decide +kernel)) (fun _ _ _ _ _ => (dp_name (i := 4) sc__law_many.nd (by rfl) (by first | exact Or.inl rfl | exact Or.inr rfl))) (fun _ _ _ _ _ => (dts_one (dt_of (dw_and (dt_val (de_callB cd_isi (by rfl) m_isinstance bb_isinstance (da_cons (de_var 4) (da_cons (de_ty bb_tuple m_tuple (by rfl)) da_nil)))) (dw_and1 (dt_cmp (od_in hr.u200) (de_ix (de_var 4) de_int) (de_callN0 n__law_words G__law_words hr (by rfl)) (by rfl))))))) (fun _ _ _ _ _ => (de_var 4))) da_nil))))))) (dss_one (ds_ret (de_var 2))))))
/-! ### _law_words -/
abbrev s__law_words : Stmt := topS 28
abbrev N__law_words : List Str := []
abbrev P__law_words : List Str := []
theorem sc__law_words : FnScope N__law_words P__law_words (defScope s__law_words) := ⟨rfl, rfl, rfl, by decide +kernel, rfl, by decide +kernel, by decide +kernel⟩
def g__law_words : GS :=
  (gRet (fLst (fCons (fC (.str "name")) (fCons (fC (.str "take")) (fCons (fC (.str "give")) (fCons (fC (.str "pair")) (fCons (fC (.str "first")) (fCons (fC (.str "second")) (fCons (fC (.str "thing")) fNil)))))))))
theorem der__law_words {P : Program} {w : World} {K : PySem.W.Frag} {mg : Str → Option Value} {base : Heap} {k : Nat} {f : Addr} 
    (cdv : Value) (A : Around) (outer : List Env) (s : Shared) (H : Hp) (E : XK) (hr : Room k (A.deeper (envOfC "_law_words" (defScope s__law_words) s.heap.objs.size f cdv))) :
    DSs MT (cxOf CX0 P w K mg base N__law_words "_law_words" (defScope s__law_words) f cdv A outer s H E).nox (defBody s__law_words) (g__law_words) :=
  (dss_one (ds_ret (de_lst (da_cons de_str (da_cons de_str (da_cons de_str (da_cons de_str (da_cons de_str (da_cons de_str (da_cons de_str da_nil))))))))))
/-! ### _law_drawn -/
abbrev s__law_drawn : Stmt := topS 29
abbrev N__law_drawn : List Str := ["_law_pool_here", "_law_row_here", "_law_most", "_law_goal", "_law_program_here"]
abbrev P__law_drawn : List Str := ["_law_pool_here", "_law_row_here", "_law_most"]
theorem sc__law_drawn : FnScope N__law_drawn P__law_drawn (defScope s__law_drawn) := ⟨rfl, rfl, rfl, by decide +kernel, rfl, by decide +kernel, by decide +kernel⟩
def g__law_drawn (sp__law_kind sp__law_take sp__law_program sp__law_many : DSp) : GS :=
  (gSeq (gSet (fCall sp__law_kind (fCons (fVar 0) (fCons (fOp rAddD (fC (.int 1)) (fCall sp__law_take (fCons (fVar 0) (fCons (fC (.int 4)) fNil)))) (fCons (fLst (fCons (fC (.str "a")) (fCons (fC (.str "b")) fNil))) fNil)))) 3) (gSeq (gSet (fCall sp__law_program (fCons (fVar 0) (fCons (fCB rList1 (fCons (fVar 1) fNil)) (fCons (fVar 3) (fCons (fOp rAddD (fC (.int 1)) (fCall sp__law_take (fCons (fVar 0) (fCons (fC (.int 2)) fNil)))) fNil))))) 4) (gSeq (gIf (fTest (fOp rGtD (fCall sp__law_many (fCons (fVar 4) fNil)) (fVar 2))) (gSet (fCall sp__law_program (fCons (fVar 0) (fCons (fCB rList1 (fCons (fVar 1) fNil)) (fCons (fVar 3) (fCons (fC (.int 0)) fNil))))) 4) gNext) (gRet (fTup (fCons (fVar 3) (fCons (fVar 4) fNil)))))))
theorem der__law_drawn {P : Program} {w : World} {K : PySem.W.Frag} {mg : Str → Option Value} {base : Heap} {k : Nat} {f : Addr} {sp__law_kind sp__law_take sp__law_program sp__law_many : DSp} {a__law_kind : Addr} {fd__law_kind : FuncData} (n__law_kind : Fn K mg "_law_kind" s__law_kind P__law_kind a__law_kind fd__law_kind) (G__law_kind : FnOk P w K mg base CX0 k a__law_kind fd__law_kind P__law_kind (liftSp K sp__law_kind)) {a__law_take : Addr} {fd__law_take : FuncData} (n__law_take : Fn K mg "_law_take" s__law_take P__law_take a__law_take fd__law_take) (G__law_take : FnOk P w K mg base CX0 k a__law_take fd__law_take P__law_take (liftSp K sp__law_take)) {a__law_program : Addr} {fd__law_program : FuncData} (n__law_program : Fn K mg "_law_program" s__law_program P__law_program a__law_program fd__law_program) (G__law_program : FnOk P w K mg base CX0 k a__law_program fd__law_program P__law_program (liftSp K sp__law_program)) {a__law_many : Addr} {fd__law_many : FuncData} (n__law_many : Fn K mg "_law_many" s__law_many P__law_many a__law_many fd__law_many) (G__law_many : FnOk P w K mg base CX0 k a__law_many fd__law_many P__law_many (liftSp K sp__law_many)) (m_list : mg "list" = none)
    (cdv : Value) (A : Around) (outer : List Env) (s : Shared) (H : Hp) (E : XK) (hr : Room k (A.deeper (envOfC "_law_drawn" (defScope s__law_drawn) s.heap.objs.size f cdv))) :
    DSs MT (cxOf CX0 P w K mg base N__law_drawn "_law_drawn" (defScope s__law_drawn) f cdv A outer s H E).nox (defBody s__law_drawn) (g__law_drawn sp__law_kind sp__law_take sp__law_program sp__law_many) :=
  (dss_cons (ds_set (i := 3) sc__law_drawn.nd rfl (by first | exact Or.inl rfl | exact Or.inr rfl) (de_callN n__law_kind G__law_kind hr (by rfl) (da_cons (de_var 0) (da_cons (de_op od_add de_int (de_callN n__law_take G__law_take hr (by rfl) (da_cons (de_var 0) (da_cons de_int da_nil)))) (da_cons (de_lst (da_cons de_str (da_cons de_str da_nil))) da_nil))))) (dss_cons (ds_set (i := 4) sc__law_drawn.nd rfl (by first | exact Or.inl rfl | exact Or.inr rfl) (de_callN n__law_program G__law_program hr (by rfl) (da_cons (de_var 0) (da_cons (de_callTy cd_list1 (by rfl) m_list bb_list (da_cons (de_var 1) da_nil)) (da_cons (de_var 3) (da_cons (de_op od_add de_int (de_callN n__law_take G__law_take hr (by rfl) (da_cons (de_var 0) (da_cons de_int da_nil)))) da_nil)))))) (dss_cons (ds_if (dt_cmp od_gt (de_callN n__law_many G__law_many hr (by rfl) (da_cons (de_var 4) da_nil)) (de_var 2) (nomark _)) (dss_one (ds_set (i := 4) sc__law_drawn.nd rfl (by first | exact Or.inl rfl | exact Or.inr rfl) (de_callN n__law_program G__law_program hr (by rfl) (da_cons (de_var 0) (da_cons (de_callTy cd_list1 (by rfl) m_list bb_list (da_cons (de_var 1) da_nil)) (da_cons (de_var 3) (da_cons de_int da_nil))))))) dss_nil) (dss_one (ds_ret (de_tup (da_cons (de_var 3) (da_cons (de_var 4) da_nil))))))))
/-! ### _law_inner -/
abbrev s__law_inner : Stmt := topS 30
abbrev N__law_inner : List Str := ["_law_program_here"]
abbrev P__law_inner : List Str := ["_law_program_here"]
theorem sc__law_inner : FnScope N__law_inner P__law_inner (defScope s__law_inner) := ⟨rfl, rfl, rfl, by decide +kernel, rfl, by decide +kernel, by decide +kernel⟩
def g__law_inner : GS :=
  (gSeq (gIf (fTest (fOp (rEqD false) (fOp rIxD (fVar 0) (fC (.int 0))) (fC (.str "take")))) (gRet (fLst (fCons (fOp rIxD (fVar 0) (fC (.int 3))) fNil))) gNext) (gSeq (gIf (fTest (fOp (rInD false) (fOp rIxD (fVar 0) (fC (.int 0))) (fLst (fCons (fC (.str "give")) (fCons (fC (.str "pair")) (fCons (fC (.str "first")) (fCons (fC (.str "second")) fNil))))))) (gRet (fCB rList1 (fCons (fSl rSlD (fVar 0) (fPart (fC (.int 1))) fNoPart) fNil))) gNext) (gRet (fLst fNil))))
theorem der__law_inner {P : Program} {w : World} {K : PySem.W.Frag} {mg : Str → Option Value} {base : Heap} {k : Nat} {f : Addr} (m_list : mg "list" = none)
    (cdv : Value) (A : Around) (outer : List Env) (s : Shared) (H : Hp) (E : XK) (hr : Room k (A.deeper (envOfC "_law_inner" (defScope s__law_inner) s.heap.objs.size f cdv))) :
    DSs MT (cxOf CX0 P w K mg base N__law_inner "_law_inner" (defScope s__law_inner) f cdv A outer s H E).nox (defBody s__law_inner) (g__law_inner) :=
  (dss_cons (ds_if (dt_cmp (od_eq hr.u200) (de_ix (de_var 0) de_int) de_str (nomark _)) (dss_one (ds_ret (de_lst (da_cons (de_ix (de_var 0) de_int) da_nil)))) dss_nil) (dss_cons (ds_if (dt_cmp (od_in hr.u200) (de_ix (de_var 0) de_int) (de_lst (da_cons de_str (da_cons de_str (da_cons de_str (da_cons de_str da_nil))))) (by rfl)) (dss_one (ds_ret (de_callTy cd_list1 (by rfl) m_list bb_list (da_cons (de_slice (de_var 0) (do_some de_int) do_none) da_nil)))) dss_nil) (dss_one (ds_ret (de_lst da_nil)))))
/-! ### _law_kind_by -/
abbrev s__law_kind_by : Stmt := topS 31
abbrev N__law_kind_by : List Str := ["_law_known", "_law_program_here", "_law_place", "_law_word", "_law_some", "_law_body", "_law_where", "_law_k", "_law_part", "_law_one", "_law_name", "_law_kind_here"]
abbrev P__law_kind_by : List Str := ["_law_known", "_law_program_here", "_law_place"]
theorem sc__law_kind_by : FnScope N__law_kind_by P__law_kind_by (defScope s__law_kind_by) := ⟨rfl, rfl, rfl, by decide +kernel, rfl, by decide +kernel, by decide +kernel⟩
def g__law_kind_by (sp__law_kind_by : DSp) : GS :=
  (gSeq (gSet (fOp rIxD (fVar 1) (fC (.int 0))) 3) (gSeq (gIf (fTest (fOp (rEqD false) (fVar 3) (fC (.str "name")))) (gSeq (gSet (fLcO (fiList (fVar 0)) (.tp [(.nm 10), (.nm 11)]) (fTest (fOp (rEqD false) (fVar 10) (fOp rIxD (fVar 1) (fC (.int 1))))) (fVar 11) [10, 11]) 4) (gRet (fTup (fCons (fOp rIxD (fOrL (fVar 4) (fLst (fCons (fC .non) fNil))) (fUn rNeg (fC (.int 1)))) (fCons (fCB rList1 (fCons (fVar 2) fNil)) fNil))))) gNext) (gSeq (gIf (fTest (fOp (rEqD false) (fVar 3) (fC (.str "thing")))) (gRet (fTup (fCons (fTup (fCons (fC (.str "one")) fNil)) (fCons (fC .non) fNil)))) gNext) (gSeq (gIf (fTest (fOp (rEqD false) (fVar 3) (fC (.str "take")))) (gSeq (gAsg (fCall sp__law_kind_by (fCons (fOp rAddD (fVar 0) (fLst (fCons (fTup (fCons (fOp rIxD (fVar 1) (fC (.int 1))) (fCons (fOp rIxD (fVar 1) (fC (.int 2))) fNil))) fNil))) (fCons (fOp rIxD (fVar 1) (fC (.int 3))) (fCons (fOp rAddD (fVar 2) (fLst (fCons (fC (.int 0)) fNil))) fNil)))) (.tp [(.nm 5), (.nm 6)])) (gSeq (gIf (fTest (fOp (rIsN false) (fVar 5) (fC .non))) (gRet (fTup (fCons (fC .non) (fCons (fVar 6) fNil)))) gNext) (gRet (fTup (fCons (fTup (fCons (fC (.str "to")) (fCons (fOp rIxD (fVar 1) (fC (.int 2))) (fCons (fVar 5) fNil)))) (fCons (fC .non) fNil)))))) gNext) (gSeq (gSet (fLstO fNil) 4) (gSeq (gFor (fiEnumT (fCons (fSl rSlD (fVar 1) (fPart (fC (.int 1))) fNoPart) fNil)) (.tp [(.nm 7), (.nm 8)]) (gSeq (gAsg (fCall sp__law_kind_by (fCons (fVar 0) (fCons (fVar 8) (fCons (fOp rAddD (fVar 2) (fLst (fCons (fVar 7) fNil))) fNil)))) (.tp [(.nm 9), (.nm 6)])) (gSeq (gIf (fTest (fOp (rIsN false) (fVar 9) (fC .non))) (gRet (fTup (fCons (fC .non) (fCons (fVar 6) fNil)))) gNext) (gDrop (fBM "list" rAppendD (fVar 4) (fCons (fVar 9) fNil)))))) (gSeq (gIf (fTest (fOp (rEqD false) (fVar 3) (fC (.str "pair")))) (gRet (fTup (fCons (fTup (fCons (fC (.str "both")) (fCons (fOp rIxD (fVar 4) (fC (.int 0))) (fCons (fOp rIxD (fVar 4) (fC (.int 1))) fNil)))) (fCons (fC .non) fNil)))) gNext) (gSeq (gIf (fAnd (fTest (fOp (rEqD false) (fVar 3) (fC (.str "give")))) (fAnd (fTest (fOp (rEqD false) (fOp rIxD (fOp rIxD (fVar 4) (fC (.int 0))) (fC (.int 0))) (fC (.str "to")))) (fTest (fOp (rEqD false) (fOp rIxD (fOp rIxD (fVar 4) (fC (.int 0))) (fC (.int 1))) (fOp rIxD (fVar 4) (fC (.int 1))))))) (gRet (fTup (fCons (fOp rIxD (fOp rIxD (fVar 4) (fC (.int 0))) (fC (.int 2))) (fCons (fC .non) fNil)))) gNext) (gSeq (gIf (fAnd (fTest (fOp (rEqD true) (fVar 3) (fC (.str "give")))) (fTest (fOp (rEqD false) (fOp rIxD (fOp rIxD (fVar 4) (fC (.int 0))) (fC (.int 0))) (fC (.str "both"))))) (gRet (fTup (fCons (fOp rIxD (fOp rIxD (fVar 4) (fC (.int 0))) (fOp rAddD (fBM "list" rIndexD (fLst (fCons (fC (.str "first")) (fCons (fC (.str "second")) fNil))) (fCons (fVar 3) fNil)) (fC (.int 1)))) (fCons (fC .non) fNil)))) gNext) (gRet (fTup (fCons (fC .non) (fCons (fCB rList1 (fCons (fVar 2) fNil)) fNil)))))))))))))
theorem der__law_kind_by {P : Program} {w : World} {K : PySem.W.Frag} {mg : Str → Option Value} {base : Heap} {k : Nat} {f : Addr} {sp__law_kind_by : DSp} {a__law_kind_by : Addr} {fd__law_kind_by : FuncData} (n__law_kind_by : Fn K mg "_law_kind_by" s__law_kind_by P__law_kind_by a__law_kind_by fd__law_kind_by) (G__law_kind_by : FnOk P w K mg base CX0 k a__law_kind_by fd__law_kind_by P__law_kind_by (liftSp K sp__law_kind_by)) (m_list : mg "list" = none) (m_enumerate : mg "enumerate" = none)
    (cdv : Value) (A : Around) (outer : List Env) (s : Shared) (H : Hp) (E : XK) (hr : Room k (A.deeper (envOfC "_law_kind_by" (defScope s__law_kind_by) s.heap.objs.size f cdv))) :
    DSs MT (cxOf CX0 P w K mg base N__law_kind_by "_law_kind_by" (defScope s__law_kind_by) f cdv A outer s H E).nox (defBody s__law_kind_by) (g__law_kind_by sp__law_kind_by) :=
  (dss_cons (ds_set (i := 3) sc__law_kind_by.nd rfl (by first | exact Or.inl rfl | exact Or.inr rfl) (de_ix (de_var 1) de_int)) (dss_cons (ds_if (dt_cmp (od_eq hr.u200) (de_var 3) de_str (nomark _)) (dss_cons (ds_setLcO (i := 4) rfl sc__law_kind_by.nd rfl rfl (sw_true rfl rfl rfl (by decide +kernel)) (di_list (de_var 0)) (blkOk_by (own := [("_law_name", 10), ("_law_kind_here", 11)]) (N := N__law_kind_by) (sc := defScope s__law_kind_by) (by decide +kernel)) (fun _ _ _ _ _ => (dp_tup (by rfl) (dps_cons (dp_name (i := 10) sc__law_kind_by.nd (by rfl) (by first | exact Or.inl rfl | exact Or.inr rfl)) (dps_cons (dp_name (i := 11) sc__law_kind_by.nd (by rfl) (by first | exact Or.inl rfl | exact Or.inr rfl)) dps_nil)))) (fun _ _ _ _ _ => (dts_one (dt_cmp (od_eq hr.u200) (de_var 10) (de_ix (de_var 1) de_int) (nomark _)))) (fun _ _ _ _ _ => (de_var 11))) (dss_one (ds_ret (de_tup (da_cons (de_ix (de_orL (de_var 4) (de_one (de_lst (da_cons de_non da_nil)))) (de_neg de_int)) (da_cons (de_callTy cd_list1 (by rfl) m_list bb_list (da_cons (de_var 2) da_nil)) da_nil)))))) dss_nil) (dss_cons (ds_if (dt_cmp (od_eq hr.u200) (de_var 3) de_str (nomark _)) (dss_one (ds_ret (de_tup (da_cons (de_tup (da_cons de_str da_nil)) (da_cons de_non da_nil))))) dss_nil) (dss_cons (ds_if (dt_cmp (od_eq hr.u200) (de_var 3) de_str (nomark _)) (dss_cons (ds_asg (de_callN n__law_kind_by G__law_kind_by hr (by rfl) (da_cons (de_op od_add (de_var 0) (de_lst (da_cons (de_tup (da_cons (de_ix (de_var 1) de_int) (da_cons (de_ix (de_var 1) de_int) da_nil))) da_nil))) (da_cons (de_ix (de_var 1) de_int) (da_cons (de_op od_add (de_var 2) (de_lst (da_cons de_int da_nil))) da_nil)))) (dp_tup (by rfl) (dps_cons (dp_name (i := 5) sc__law_kind_by.nd (by rfl) (by first | exact Or.inl rfl | exact Or.inr rfl)) (dps_cons (dp_name (i := 6) sc__law_kind_by.nd (by rfl) (by first | exact Or.inl rfl | exact Or.inr rfl)) dps_nil)))) (dss_cons (ds_if (dt_cmp od_is (de_var 5) de_non (nomark _)) (dss_one (ds_ret (de_tup (da_cons de_non (da_cons (de_var 6) da_nil))))) dss_nil) (dss_one (ds_ret (de_tup (da_cons (de_tup (da_cons de_str (da_cons (de_ix (de_var 1) de_int) (da_cons (de_var 5) da_nil)))) (da_cons de_non da_nil))))))) dss_nil) (dss_cons (ds_set (i := 4) sc__law_kind_by.nd rfl (by first | exact Or.inl rfl | exact Or.inr rfl) (de_lstO da_nil)) (dss_cons (ds_for PassesOwn.never rfl (di_enumT (by rfl) m_enumerate (da_cons (de_slice (de_var 1) (do_some de_int) do_none) da_nil)) (dp_tup (by rfl) (dps_cons (dp_name (i := 7) sc__law_kind_by.nd (by rfl) (by first | exact Or.inl rfl | exact Or.inr rfl)) (dps_cons (dp_name (i := 8) sc__law_kind_by.nd (by rfl) (by first | exact Or.inl rfl | exact Or.inr rfl)) dps_nil))) (dss_cons (ds_asg (de_callN n__law_kind_by G__law_kind_by hr (by rfl) (da_cons (de_var 0) (da_cons (de_var 8) (da_cons (de_op od_add (de_var 2) (de_lst (da_cons (de_var 7) da_nil))) da_nil)))) (dp_tup (by rfl) (dps_cons (dp_name (i := 9) sc__law_kind_by.nd (by rfl) (by first | exact Or.inl rfl | exact Or.inr rfl)) (dps_cons (dp_name (i := 6) sc__law_kind_by.nd (by rfl) (by first | exact Or.inl rfl | exact Or.inr rfl)) dps_nil)))) (dss_cons (ds_if (dt_cmp od_is (de_var 9) de_non (nomark _)) (dss_one (ds_ret (de_tup (da_cons de_non (da_cons (de_var 6) da_nil))))) dss_nil) (dss_one (ds_expr (de_bm PySem.F.plainAttrs_list PySem.F.slot_list_append PySem.F.type_list_append md_append (de_var 4) (da_cons (de_var 9) da_nil))))))) (dss_cons (ds_if (dt_cmp (od_eq hr.u200) (de_var 3) de_str (nomark _)) (dss_one (ds_ret (de_tup (da_cons (de_tup (da_cons de_str (da_cons (de_ix (de_var 4) de_int) (da_cons (de_ix (de_var 4) de_int) da_nil)))) (da_cons de_non da_nil))))) dss_nil) (dss_cons (ds_if (dt_of (dw_and (dt_cmp (od_eq hr.u200) (de_var 3) de_str (nomark _)) (dw_and (dt_cmp (od_eq hr.u200) (de_ix (de_ix (de_var 4) de_int) de_int) de_str (nomark _)) (dw_and1 (dt_cmp (od_eq hr.u200) (de_ix (de_ix (de_var 4) de_int) de_int) (de_ix (de_var 4) de_int) (nomark _)))))) (dss_one (ds_ret (de_tup (da_cons (de_ix (de_ix (de_var 4) de_int) de_int) (da_cons de_non da_nil))))) dss_nil) (dss_cons (ds_if (dt_of (dw_and (dt_cmp (od_ne hr.u200) (de_var 3) de_str (nomark _)) (dw_and1 (dt_cmp (od_eq hr.u200) (de_ix (de_ix (de_var 4) de_int) de_int) de_str (nomark _))))) (dss_one (ds_ret (de_tup (da_cons (de_ix (de_ix (de_var 4) de_int) (de_op od_add (de_bm PySem.F.plainAttrs_list PySem.F.slot_list_index PySem.F.type_list_index (md_index hr.u200) (de_lst (da_cons de_str (da_cons de_str da_nil))) (da_cons (de_var 3) da_nil)) de_int)) (da_cons de_non da_nil))))) dss_nil) (dss_one (ds_ret (de_tup (da_cons de_non (da_cons (de_callTy cd_list1 (by rfl) m_list bb_list (da_cons (de_var 2) da_nil)) da_nil))))))))))))))
/-! ### _law_parts -/
abbrev s__law_parts : Stmt := topS 32
abbrev N__law_parts : List Str := ["_law_program_here", "_law_place", "_law_found", "_law_k", "_law_part"]
abbrev P__law_parts : List Str := ["_law_program_here", "_law_place"]
theorem sc__law_parts : FnScope N__law_parts P__law_parts (defScope s__law_parts) := ⟨rfl, rfl, rfl, by decide +kernel, rfl, by decide +kernel, by decide +kernel⟩
def g__law_parts (sp__law_inner sp__law_parts : DSp) : GS :=
  (gSeq (gSet (fLst (fCons (fTup (fCons (fVar 0) (fCons (fVar 1) fNil))) fNil)) 2) (gSeq (gFor (fiEnum (fCons (fCall sp__law_inner (fCons (fVar 0) fNil)) fNil)) (.tp [(.nm 3), (.nm 4)]) (gSet (fOp rAddD (fVar 2) (fCall sp__law_parts (fCons (fVar 4) (fCons (fOp rAddD (fVar 1) (fLst (fCons (fVar 3) fNil))) fNil)))) 2)) (gRet (fVar 2))))
theorem der__law_parts {P : Program} {w : World} {K : PySem.W.Frag} {mg : Str → Option Value} {base : Heap} {k : Nat} {f : Addr} {sp__law_inner sp__law_parts : DSp} {a__law_inner : Addr} {fd__law_inner : FuncData} (n__law_inner : Fn K mg "_law_inner" s__law_inner P__law_inner a__law_inner fd__law_inner) (G__law_inner : FnOk P w K mg base CX0 k a__law_inner fd__law_inner P__law_inner (liftSp K sp__law_inner)) {a__law_parts : Addr} {fd__law_parts : FuncData} (n__law_parts : Fn K mg "_law_parts" s__law_parts P__law_parts a__law_parts fd__law_parts) (G__law_parts : FnOk P w K mg base CX0 k a__law_parts fd__law_parts P__law_parts (liftSp K sp__law_parts)) (m_enumerate : mg "enumerate" = none)
    (cdv : Value) (A : Around) (outer : List Env) (s : Shared) (H : Hp) (E : XK) (hr : Room k (A.deeper (envOfC "_law_parts" (defScope s__law_parts) s.heap.objs.size f cdv))) :
    DSs MT (cxOf CX0 P w K mg base N__law_parts "_law_parts" (defScope s__law_parts) f cdv A outer s H E).nox (defBody s__law_parts) (g__law_parts sp__law_inner sp__law_parts) :=
  (dss_cons (ds_set (i := 2) sc__law_parts.nd rfl (by first | exact Or.inl rfl | exact Or.inr rfl) (de_lst (da_cons (de_tup (da_cons (de_var 0) (da_cons (de_var 1) da_nil))) da_nil))) (dss_cons (ds_for PassesOwn.never rfl (di_enum (by rfl) m_enumerate (da_cons (de_callN n__law_inner G__law_inner hr (by rfl) (da_cons (de_var 0) da_nil)) da_nil)) (dp_tup (by rfl) (dps_cons (dp_name (i := 3) sc__law_parts.nd (by rfl) (by first | exact Or.inl rfl | exact Or.inr rfl)) (dps_cons (dp_name (i := 4) sc__law_parts.nd (by rfl) (by first | exact Or.inl rfl | exact Or.inr rfl)) dps_nil))) (dss_one (ds_set (i := 2) sc__law_parts.nd rfl (by first | exact Or.inl rfl | exact Or.inr rfl) (de_op od_add (de_var 2) (de_callN n__law_parts G__law_parts hr (by rfl) (da_cons (de_var 4) (da_cons (de_op od_add (de_var 1) (de_lst (da_cons (de_var 3) da_nil))) da_nil))))))) (dss_one (ds_ret (de_var 2)))))
/-! ### _law_with -/
abbrev s__law_with : Stmt := topS 33
abbrev N__law_with : List Str := ["_law_program_here", "_law_place", "_law_part", "_law_at"]
abbrev P__law_with : List Str := ["_law_program_here", "_law_place", "_law_part"]
theorem sc__law_with : FnScope N__law_with P__law_with (defScope s__law_with) := ⟨rfl, rfl, rfl, by decide +kernel, rfl, by decide +kernel, by decide +kernel⟩
def g__law_with (sp__law_with : DSp) : GS :=
  (gSeq (gIf (fTest (fOp (rEqD false) (fVar 1) (fLst fNil))) (gRet (fVar 2)) gNext) (gSeq (gSet (fOp rIxD (fVar 1) (fC (.int 0))) 3) (gSeq (gIf (fTest (fOp (rEqD false) (fOp rIxD (fVar 0) (fC (.int 0))) (fC (.str "take")))) (gRet (fOp rAddD (fSl rSlD (fVar 0) fNoPart (fPart (fC (.int 3)))) (fTup (fCons (fCall sp__law_with (fCons (fOp rIxD (fVar 0) (fC (.int 3))) (fCons (fSl rSlD (fVar 1) (fPart (fC (.int 1))) fNoPart) (fCons (fVar 2) fNil)))) fNil)))) gNext) (gRet (fOp rAddD (fOp rAddD (fSl rSlD (fVar 0) fNoPart (fPart (fOp rAddD (fC (.int 1)) (fVar 3)))) (fTup (fCons (fCall sp__law_with (fCons (fOp rIxD (fVar 0) (fOp rAddD (fC (.int 1)) (fVar 3))) (fCons (fSl rSlD (fVar 1) (fPart (fC (.int 1))) fNoPart) (fCons (fVar 2) fNil)))) fNil))) (fSl rSlD (fVar 0) (fPart (fOp rAddD (fC (.int 2)) (fVar 3))) fNoPart))))))
theorem der__law_with {P : Program} {w : World} {K : PySem.W.Frag} {mg : Str → Option Value} {base : Heap} {k : Nat} {f : Addr} {sp__law_with : DSp} {a__law_with : Addr} {fd__law_with : FuncData} (n__law_with : Fn K mg "_law_with" s__law_with P__law_with a__law_with fd__law_with) (G__law_with : FnOk P w K mg base CX0 k a__law_with fd__law_with P__law_with (liftSp K sp__law_with))
    (cdv : Value) (A : Around) (outer : List Env) (s : Shared) (H : Hp) (E : XK) (hr : Room k (A.deeper (envOfC "_law_with" (defScope s__law_with) s.heap.objs.size f cdv))) :
    DSs MT (cxOf CX0 P w K mg base N__law_with "_law_with" (defScope s__law_with) f cdv A outer s H E).nox (defBody s__law_with) (g__law_with sp__law_with) :=
  (dss_cons (ds_if (dt_cmp (od_eq hr.u200) (de_var 1) (de_lst da_nil) (nomark _)) (dss_one (ds_ret (de_var 2))) dss_nil) (dss_cons (ds_set (i := 3) sc__law_with.nd rfl (by first | exact Or.inl rfl | exact Or.inr rfl) (de_ix (de_var 1) de_int)) (dss_cons (ds_if (dt_cmp (od_eq hr.u200) (de_ix (de_var 0) de_int) de_str (nomark _)) (dss_one (ds_ret (de_op od_add (de_slice (de_var 0) do_none (do_some de_int)) (de_tup (da_cons (de_callN n__law_with G__law_with hr (by rfl) (da_cons (de_ix (de_var 0) de_int) (da_cons (de_slice (de_var 1) (do_some de_int) do_none) (da_cons (de_var 2) da_nil)))) da_nil))))) dss_nil) (dss_one (ds_ret (de_op od_add (de_op od_add (de_slice (de_var 0) do_none (do_some (de_op od_add de_int (de_var 3)))) (de_tup (da_cons (de_callN n__law_with G__law_with hr (by rfl) (da_cons (de_ix (de_var 0) (de_op od_add de_int (de_var 3))) (da_cons (de_slice (de_var 1) (do_some de_int) do_none) (da_cons (de_var 2) da_nil)))) da_nil))) (de_slice (de_var 0) (do_some (de_op od_add de_int (de_var 3))) do_none)))))))
/-! ### _law_told -/
abbrev s__law_told : Stmt := topS 34
abbrev N__law_told : List Str := ["_law_row_here", "_law_program_here", "_law_error", "_law_found", "e"]
abbrev P__law_told : List Str := ["_law_row_here", "_law_program_here"]
theorem sc__law_told : FnScope N__law_told P__law_told (defScope s__law_told) := ⟨rfl, rfl, rfl, by decide +kernel, rfl, by decide +kernel, by decide +kernel⟩
def g__law_told (sp_kind_of : DSp) (K : PySem.W.Frag) (C_KindError C_NoFit C_NoKind C_NoLong C_NoMaking C_NoText C_TooLong C_TooMany : Addr) : GS :=
  (gSeq (gSet (fC .non) 2) (gSeq (gTryKp K (.ref C_KindError) 4 (fun RX => (gSet (fTup (fCons (fC (.str "told")) (fCons (fCallX sp_kind_of RX (fCons (fVar 0) (fCons (fVar 1) fNil))) fNil))) 3)) (fun a cls fs => (gSeq (gSet (fVar 4) 2) (gSet (fC .non) 3))) RX0) (gSeq (gIf (fTest (fOp (rIsN false) (fVar 2) (fC .non))) (gRet (fVar 3)) gNext) (gSeq (gIf (fOr (fNot (fTest (fCB (rIsXD K) (fCons (fVar 2) (fCons (fC (.ref C_NoFit)) fNil))))) (fNot (fTest (fCB (rIsXD K) (fCons (fVar 2) (fCons (fC (.ty "ValueError")) fNil)))))) (gRet (fC .non)) gNext) (gSeq (gIf (fOr (fTest (fCB (rIsXD K) (fCons (fVar 2) (fCons (fTup (fCons (fC (.ref C_NoKind)) (fCons (fC (.ref C_NoLong)) (fCons (fC (.ref C_NoMaking)) (fCons (fC (.ref C_NoText)) (fCons (fC (.ref C_TooLong)) (fCons (fC (.ref C_TooMany)) fNil))))))) fNil)))) (fNot (fTest (fCB rIsiD (fCons (fXf K "place" (fVar 2)) (fCons (fC (.ty "list")) fNil)))))) (gRet (fC .non)) gNext) (gSeq (gSet (fTup (fCons (fC (.str "none")) (fCons (fCB rList1 (fCons (fXf K "place" (fVar 2)) fNil)) fNil))) 3) (gSeq (gDrop (fBM "list" rAppendD (fXf K "place" (fVar 2)) (fCons (fC (.int 7)) fNil))) (gRet (fVar 3)))))))))
theorem der__law_told {P : Program} {w : World} {K : PySem.W.Frag} {mg : Str → Option Value} {base : Heap} {k : Nat} {f : Addr} {sp_kind_of : DSp} {C_KindError C_NoFit C_NoKind C_NoLong C_NoMaking C_NoText C_TooLong C_TooMany : Addr} {a_kind_of : Addr} {fd_kind_of : FuncData} (n_kind_of : Fn K mg "kind_of" s_kind_of P_kind_of a_kind_of fd_kind_of) (G_kind_of : FnOk P w K mg base (L2.CX P w) k a_kind_of fd_kind_of P_kind_of (liftSp K sp_kind_of)) (m_isinstance : mg "isinstance" = none) (m_ValueError : mg "ValueError" = none) (m_list : mg "list" = none) (k_KindError : Cl K mg "KindError" C_KindError) (k_NoFit : Cl K mg "NoFit" C_NoFit) (k_NoKind : Cl K mg "NoKind" C_NoKind) (k_NoLong : Cl K mg "NoLong" C_NoLong) (k_NoMaking : Cl K mg "NoMaking" C_NoMaking) (k_NoText : Cl K mg "NoText" C_NoText) (k_TooLong : Cl K mg "TooLong" C_TooLong) (k_TooMany : Cl K mg "TooMany" C_TooMany)
    (cdv : Value) (A : Around) (outer : List Env) (s : Shared) (H : Hp) (E : XK) (hr : Room k (A.deeper (envOfC "_law_told" (defScope s__law_told) s.heap.objs.size f cdv))) :
    DSs MT (cxOf CX0 P w K mg base N__law_told "_law_told" (defScope s__law_told) f cdv A outer s H E).nox (defBody s__law_told) (g__law_told sp_kind_of K C_KindError C_NoFit C_NoKind C_NoLong C_NoMaking C_NoText C_TooLong C_TooMany) :=
  (dss_cons (ds_set (i := 2) sc__law_told.nd rfl (by first | exact Or.inl rfl | exact Or.inr rfl) de_non) (dss_cons (ds_try_keep (i := 4) sc__law_told.nd rfl rfl ⟨rfl, by decide, .inl k_KindError.g⟩ takes0 outs0 (fun RX W pn xe tk hp => (dss_one (ds_set (i := 3) sc__law_told.nd rfl (by first | exact Or.inl rfl | exact Or.inr rfl) (de_tup (da_cons de_str (da_cons (de_callX n_kind_of G_kind_of hr tk (by rfl) (da_cons (de_var 0) (da_cons (de_var 1) da_nil))) da_nil)))))) (fun fs a oe cls d pn hz hf => (dss_cons (ds_set (i := 2) sc__law_told.nd rfl (by first | exact Or.inl rfl | exact Or.inr rfl) (de_var 4)) (dss_one (ds_set (i := 3) sc__law_told.nd rfl (by first | exact Or.inl rfl | exact Or.inr rfl) de_non))))) (dss_cons (ds_if (dt_cmp od_is (de_var 2) de_non (nomark _)) (dss_one (ds_ret (de_var 3))) dss_nil) (dss_cons (ds_if (dt_of (dw_or (dt_not (dt_val (de_callB cd_isX (by rfl) m_isinstance bb_isinstance (da_cons (de_var 2) (da_cons (de_cst (cst_cls k_NoFit) (by rfl)) da_nil))))) (dw_or1 (dt_not (dt_val (de_callB cd_isX (by rfl) m_isinstance bb_isinstance (da_cons (de_var 2) (da_cons (de_ty bb_ValueError m_ValueError (by rfl)) da_nil)))))))) (dss_one (ds_ret de_non)) dss_nil) (dss_cons (ds_if (dt_of (dw_or (dt_val (de_callB cd_isX (by rfl) m_isinstance bb_isinstance (da_cons (de_var 2) (da_cons (de_tup (da_cons (de_cst (cst_cls k_NoKind) (by rfl)) (da_cons (de_cst (cst_cls k_NoLong) (by rfl)) (da_cons (de_cst (cst_cls k_NoMaking) (by rfl)) (da_cons (de_cst (cst_cls k_NoText) (by rfl)) (da_cons (de_cst (cst_cls k_TooLong) (by rfl)) (da_cons (de_cst (cst_cls k_TooMany) (by rfl)) da_nil))))))) da_nil)))) (dw_or1 (dt_not (dt_val (de_callB cd_isi (by rfl) m_isinstance bb_isinstance (da_cons (de_xf (de_var 2)) (da_cons (de_ty bb_list m_list (by rfl)) da_nil)))))))) (dss_one (ds_ret de_non)) dss_nil) (dss_cons (ds_set (i := 3) sc__law_told.nd rfl (by first | exact Or.inl rfl | exact Or.inr rfl) (de_tup (da_cons de_str (da_cons (de_callTy cd_list1 (by rfl) m_list bb_list (da_cons (de_xf (de_var 2)) da_nil)) da_nil)))) (dss_cons (ds_expr (de_bm PySem.F.plainAttrs_list PySem.F.slot_list_append PySem.F.type_list_append md_append (de_xf (de_var 2)) (da_cons de_int da_nil))) (dss_one (ds_ret (de_var 3))))))))))
/-! ### law -/
abbrev s_law : Stmt := topS 35
abbrev N_law : List Str := ["_law_script", "_law_k", "_law_pool_here", "_law_row_here", "_law_goal", "_law_program_here", "_law_parts_here", "_law_kind_here", "_law_place", "_law_due", "_law_handed", "_law_turn"]
abbrev P_law : List Str := ["_law_script"]
theorem sc_law : FnScope N_law P_law (defScope s_law) := ⟨rfl, rfl, rfl, by decide +kernel, rfl, by decide +kernel, by decide +kernel⟩
def g_law (sp__law_pool sp__law_row sp__law_drawn sp__law_told sp__law_parts sp__law_take sp__law_with sp__law_kind_by : DSp) : GS :=
  (gSeq (gFor (fiRng1 (fCons (fCB rMax2 (fCons (fC (.int 1)) (fCons (fCB rMin2 (fCons (fCB rLenD (fCons (fVar 0) fNil)) (fCons (fC (.int 16)) fNil))) fNil))) fNil)) (.nm 1) (gSeq (gSet (fCall sp__law_pool (fCons (fVar 0) (fCons (fVar 1) fNil))) 2) (gSeq (gSet (fCall sp__law_row (fCons (fVar 2) fNil)) 3) (gSeq (gAsg (fCall sp__law_drawn (fCons (fVar 2) (fCons (fVar 3) (fCons (fC (.int 150)) fNil)))) (.tp [(.nm 4), (.nm 5)])) (gSeq (gIf (fTest (fOp (rEqD true) (fCall sp__law_told (fCons (fCB rList1 (fCons (fVar 3) fNil)) (fCons (fVar 5) fNil))) (fTup (fCons (fC (.str "told")) (fCons (fVar 4) fNil))))) (gRet (fC (.bl false))) gNext) (gSeq (gSet (fCall sp__law_parts (fCons (fVar 5) (fCons (fLst fNil) fNil))) 6) (gSeq (gIf (fAnd (fTest (fOp rGtD (fCall sp__law_take (fCons (fVar 2) (fCons (fC (.int 3)) fNil))) (fC (.int 0)))) (fTest (fOp rLtD (fCB rLenD (fCons (fVar 6) fNil)) (fC (.int 100))))) (gSet (fCall sp__law_with (fCons (fVar 5) (fCons (fOp rIxD (fOp rIxD (fVar 6) (fCall sp__law_take (fCons (fVar 2) (fCons (fCB rLenD (fCons (fVar 6) fNil)) fNil)))) (fC (.int 1))) (fCons (fOp rIxD (fOp rIxD (fVar 6) (fCall sp__law_take (fCons (fVar 2) (fCons (fCB rLenD (fCons (fVar 6) fNil)) fNil)))) (fC (.int 0))) fNil)))) 5) gNext) (gSeq (gAsg (fCall sp__law_kind_by (fCons (fVar 3) (fCons (fVar 5) (fCons (fLst fNil) fNil)))) (.tp [(.nm 7), (.nm 8)])) (gSeq (gSet (fOp rIxD (fLst (fCons (fTup (fCons (fC (.str "told")) (fCons (fVar 7) fNil))) (fCons (fTup (fCons (fC (.str "none")) (fCons (fVar 8) fNil))) fNil))) (fCB rInt1 (fCons (fOp (rIsN false) (fVar 7) (fC .non)) fNil))) 9) (gSeq (gAsg (fCall sp__law_kind_by (fCons (fLst fNil) (fCons (fVar 5) (fCons (fLst fNil) fNil)))) (.tp [(.nm 7), (.nm 8)])) (gSeq (gIf (fTest (fOp (rEqD true) (fCall sp__law_told (fCons (fLst fNil) (fCons (fVar 5) fNil))) (fOp rIxD (fLst (fCons (fTup (fCons (fC (.str "told")) (fCons (fVar 7) fNil))) (fCons (fTup (fCons (fC (.str "none")) (fCons (fVar 8) fNil))) fNil))) (fCB rInt1 (fCons (fOp (rIsN false) (fVar 7) (fC .non)) fNil))))) (gRet (fC (.bl false))) gNext) (gSeq (gSet (fCB rList1 (fCons (fVar 3) fNil)) 10) (gFor (fiRng1 (fCons (fC (.int 2)) fNil)) (.nm 11) (gIf (fOr (fTest (fOp (rEqD true) (fCall sp__law_told (fCons (fVar 10) (fCons (fVar 5) fNil))) (fVar 9))) (fTest (fOp (rEqD true) (fVar 10) (fVar 3)))) (gRet (fC (.bl false))) gNext)))))))))))))) (gRet (fC (.bl true))))
theorem der_law {P : Program} {w : World} {K : PySem.W.Frag} {mg : Str → Option Value} {base : Heap} {k : Nat} {f : Addr} {sp__law_pool sp__law_row sp__law_drawn sp__law_told sp__law_parts sp__law_take sp__law_with sp__law_kind_by : DSp} {a__law_pool : Addr} {fd__law_pool : FuncData} (n__law_pool : Fn K mg "_law_pool" s__law_pool P__law_pool a__law_pool fd__law_pool) (G__law_pool : FnOk P w K mg base CX0 k a__law_pool fd__law_pool P__law_pool (liftSp K sp__law_pool)) {a__law_row : Addr} {fd__law_row : FuncData} (n__law_row : Fn K mg "_law_row" s__law_row P__law_row a__law_row fd__law_row) (G__law_row : FnOk P w K mg base CX0 k a__law_row fd__law_row P__law_row (liftSp K sp__law_row)) {a__law_drawn : Addr} {fd__law_drawn : FuncData} (n__law_drawn : Fn K mg "_law_drawn" s__law_drawn P__law_drawn a__law_drawn fd__law_drawn) (G__law_drawn : FnOk P w K mg base CX0 k a__law_drawn fd__law_drawn P__law_drawn (liftSp K sp__law_drawn)) {a__law_told : Addr} {fd__law_told : FuncData} (n__law_told : Fn K mg "_law_told" s__law_told P__law_told a__law_told fd__law_told) (G__law_told : FnOk P w K mg base CX0 k a__law_told fd__law_told P__law_told (liftSp K sp__law_told)) {a__law_parts : Addr} {fd__law_parts : FuncData} (n__law_parts : Fn K mg "_law_parts" s__law_parts P__law_parts a__law_parts fd__law_parts) (G__law_parts : FnOk P w K mg base CX0 k a__law_parts fd__law_parts P__law_parts (liftSp K sp__law_parts)) {a__law_take : Addr} {fd__law_take : FuncData} (n__law_take : Fn K mg "_law_take" s__law_take P__law_take a__law_take fd__law_take) (G__law_take : FnOk P w K mg base CX0 k a__law_take fd__law_take P__law_take (liftSp K sp__law_take)) {a__law_with : Addr} {fd__law_with : FuncData} (n__law_with : Fn K mg "_law_with" s__law_with P__law_with a__law_with fd__law_with) (G__law_with : FnOk P w K mg base CX0 k a__law_with fd__law_with P__law_with (liftSp K sp__law_with)) {a__law_kind_by : Addr} {fd__law_kind_by : FuncData} (n__law_kind_by : Fn K mg "_law_kind_by" s__law_kind_by P__law_kind_by a__law_kind_by fd__law_kind_by) (G__law_kind_by : FnOk P w K mg base CX0 k a__law_kind_by fd__law_kind_by P__law_kind_by (liftSp K sp__law_kind_by)) (m_range : mg "range" = none) (m_len : mg "len" = none) (m_min : mg "min" = none) (m_max : mg "max" = none) (m_list : mg "list" = none) (m_int : mg "int" = none)
    (cdv : Value) (A : Around) (outer : List Env) (s : Shared) (H : Hp) (E : XK) (hr : Room k (A.deeper (envOfC "law" (defScope s_law) s.heap.objs.size f cdv))) :
    DSs MT (cxOf CX0 P w K mg base N_law "law" (defScope s_law) f cdv A outer s H E).nox (defBody s_law) (g_law sp__law_pool sp__law_row sp__law_drawn sp__law_told sp__law_parts sp__law_take sp__law_with sp__law_kind_by) :=
  (dss_cons (ds_for PassesOwn.never rfl (di_range1 (by rfl) m_range (da_cons (de_callB (cd_max2 (by rfl)) (by rfl) m_max bb_max (da_cons de_int (da_cons (de_callB (cd_min2 (by rfl)) (by rfl) m_min bb_min (da_cons (de_callB cd_len (by rfl) m_len bb_len (da_cons (de_var 0) da_nil)) (da_cons de_int da_nil))) da_nil))) da_nil)) (dp_name (i := 1) sc_law.nd (by rfl) (by first | exact Or.inl rfl | exact Or.inr rfl)) (dss_cons (ds_set (i := 2) sc_law.nd rfl (by first | exact Or.inl rfl | exact Or.inr rfl) (de_callN n__law_pool G__law_pool hr (by rfl) (da_cons (de_var 0) (da_cons (de_var 1) da_nil)))) (dss_cons (ds_set (i := 3) sc_law.nd rfl (by first | exact Or.inl rfl | exact Or.inr rfl) (de_callN n__law_row G__law_row hr (by rfl) (da_cons (de_var 2) da_nil))) (dss_cons (ds_asg (de_callN n__law_drawn G__law_drawn hr (by rfl) (da_cons (de_var 2) (da_cons (de_var 3) (da_cons de_int da_nil)))) (dp_tup (by rfl) (dps_cons (dp_name (i := 4) sc_law.nd (by rfl) (by first | exact Or.inl rfl | exact Or.inr rfl)) (dps_cons (dp_name (i := 5) sc_law.nd (by rfl) (by first | exact Or.inl rfl | exact Or.inr rfl)) dps_nil)))) (dss_cons (ds_if (dt_cmp (od_ne hr.u200) (de_callN n__law_told G__law_told hr (by rfl) (da_cons (de_callTy cd_list1 (by rfl) m_list bb_list (da_cons (de_var 3) da_nil)) (da_cons (de_var 5) da_nil))) (de_tup (da_cons de_str (da_cons (de_var 4) da_nil))) (nomark _)) (dss_one (ds_ret de_bl)) dss_nil) (dss_cons (ds_set (i := 6) sc_law.nd rfl (by first | exact Or.inl rfl | exact Or.inr rfl) (de_callN n__law_parts G__law_parts hr (by rfl) (da_cons (de_var 5) (da_cons (de_lst da_nil) da_nil)))) (dss_cons (ds_if (dt_of (dw_and (dt_cmp od_gt (de_callN n__law_take G__law_take hr (by rfl) (da_cons (de_var 2) (da_cons de_int da_nil))) de_int (nomark _)) (dw_and1 (dt_cmp od_lt (de_callB cd_len (by rfl) m_len bb_len (da_cons (de_var 6) da_nil)) de_int (nomark _))))) (dss_one (ds_set (i := 5) sc_law.nd rfl (by first | exact Or.inl rfl | exact Or.inr rfl) (de_callN n__law_with G__law_with hr (by rfl) (da_cons (de_var 5) (da_cons (de_ix (de_ix (de_var 6) (de_callN n__law_take G__law_take hr (by rfl) (da_cons (de_var 2) (da_cons (de_callB cd_len (by rfl) m_len bb_len (da_cons (de_var 6) da_nil)) da_nil)))) de_int) (da_cons (de_ix (de_ix (de_var 6) (de_callN n__law_take G__law_take hr (by rfl) (da_cons (de_var 2) (da_cons (de_callB cd_len (by rfl) m_len bb_len (da_cons (de_var 6) da_nil)) da_nil)))) de_int) da_nil)))))) dss_nil) (dss_cons (ds_asg (de_callN n__law_kind_by G__law_kind_by hr (by rfl) (da_cons (de_var 3) (da_cons (de_var 5) (da_cons (de_lst da_nil) da_nil)))) (dp_tup (by rfl) (dps_cons (dp_name (i := 7) sc_law.nd (by rfl) (by first | exact Or.inl rfl | exact Or.inr rfl)) (dps_cons (dp_name (i := 8) sc_law.nd (by rfl) (by first | exact Or.inl rfl | exact Or.inr rfl)) dps_nil)))) (dss_cons (ds_set (i := 9) sc_law.nd rfl (by first | exact Or.inl rfl | exact Or.inr rfl) (de_ix (de_lst (da_cons (de_tup (da_cons de_str (da_cons (de_var 7) da_nil))) (da_cons (de_tup (da_cons de_str (da_cons (de_var 8) da_nil))) da_nil))) (de_callTy cd_int1 (by rfl) m_int bb_int (da_cons (de_cmp od_is (de_var 7) de_non (nomark _)) da_nil)))) (dss_cons (ds_asg (de_callN n__law_kind_by G__law_kind_by hr (by rfl) (da_cons (de_lst da_nil) (da_cons (de_var 5) (da_cons (de_lst da_nil) da_nil)))) (dp_tup (by rfl) (dps_cons (dp_name (i := 7) sc_law.nd (by rfl) (by first | exact Or.inl rfl | exact Or.inr rfl)) (dps_cons (dp_name (i := 8) sc_law.nd (by rfl) (by first | exact Or.inl rfl | exact Or.inr rfl)) dps_nil)))) (dss_cons (ds_if (dt_cmp (od_ne hr.u200) (de_callN n__law_told G__law_told hr (by rfl) (da_cons (de_lst da_nil) (da_cons (de_var 5) da_nil))) (de_ix (de_lst (da_cons (de_tup (da_cons de_str (da_cons (de_var 7) da_nil))) (da_cons (de_tup (da_cons de_str (da_cons (de_var 8) da_nil))) da_nil))) (de_callTy cd_int1 (by rfl) m_int bb_int (da_cons (de_cmp od_is (de_var 7) de_non (nomark _)) da_nil))) (nomark _)) (dss_one (ds_ret de_bl)) dss_nil) (dss_cons (ds_set (i := 10) sc_law.nd rfl (by first | exact Or.inl rfl | exact Or.inr rfl) (de_callTy cd_list1 (by rfl) m_list bb_list (da_cons (de_var 3) da_nil))) (dss_one (ds_for PassesOwn.never rfl (di_range1 (by rfl) m_range (da_cons de_int da_nil)) (dp_name (i := 11) sc_law.nd (by rfl) (by first | exact Or.inl rfl | exact Or.inr rfl)) (dss_one (ds_if (dt_of (dw_or (dt_cmp (od_ne hr.u200) (de_callN n__law_told G__law_told hr (by rfl) (da_cons (de_var 10) (da_cons (de_var 5) da_nil))) (de_var 9) (nomark _)) (dw_or1 (dt_cmp (od_ne hr.u200) (de_var 10) (de_var 3) (nomark _))))) (dss_one (ds_ret de_bl)) dss_nil)))))))))))))))) (dss_one (ds_ret de_bl)))
/-! ### all facts of the text -/
structure Tx (K : PySem.W.Frag) (mg : Str → Option Value) where
  a_inner : Addr
  fd_inner : FuncData
  n_inner : Fn K mg "inner" s_inner P_inner a_inner fd_inner
  a_known_as : Addr
  fd_known_as : FuncData
  n_known_as : Fn K mg "known_as" s_known_as P_known_as a_known_as fd_known_as
  a_kind_here : Addr
  fd_kind_here : FuncData
  n_kind_here : Fn K mg "kind_here" s_kind_here P_kind_here a_kind_here fd_kind_here
  a_kind_within : Addr
  fd_kind_within : FuncData
  n_kind_within : Fn K mg "kind_within" s_kind_within P_kind_within a_kind_within fd_kind_within
  a_kind_of : Addr
  fd_kind_of : FuncData
  n_kind_of : Fn K mg "kind_of" s_kind_of P_kind_of a_kind_of fd_kind_of
  a__law_pool : Addr
  fd__law_pool : FuncData
  n__law_pool : Fn K mg "_law_pool" s__law_pool P__law_pool a__law_pool fd__law_pool
  a__law_take : Addr
  fd__law_take : FuncData
  n__law_take : Fn K mg "_law_take" s__law_take P__law_take a__law_take fd__law_take
  a__law_kind : Addr
  fd__law_kind : FuncData
  n__law_kind : Fn K mg "_law_kind" s__law_kind P__law_kind a__law_kind fd__law_kind
  a__law_seen : Addr
  fd__law_seen : FuncData
  n__law_seen : Fn K mg "_law_seen" s__law_seen P__law_seen a__law_seen fd__law_seen
  a__law_uses : Addr
  fd__law_uses : FuncData
  n__law_uses : Fn K mg "_law_uses" s__law_uses P__law_uses a__law_uses fd__law_uses
  a__law_used : Addr
  fd__law_used : FuncData
  n__law_used : Fn K mg "_law_used" s__law_used P__law_used a__law_used fd__law_used
  a__law_made : Addr
  fd__law_made : FuncData
  n__law_made : Fn K mg "_law_made" s__law_made P__law_made a__law_made fd__law_made
  a__law_program : Addr
  fd__law_program : FuncData
  n__law_program : Fn K mg "_law_program" s__law_program P__law_program a__law_program fd__law_program
  a__law_row : Addr
  fd__law_row : FuncData
  n__law_row : Fn K mg "_law_row" s__law_row P__law_row a__law_row fd__law_row
  a__law_many : Addr
  fd__law_many : FuncData
  n__law_many : Fn K mg "_law_many" s__law_many P__law_many a__law_many fd__law_many
  a__law_words : Addr
  fd__law_words : FuncData
  n__law_words : Fn K mg "_law_words" s__law_words P__law_words a__law_words fd__law_words
  a__law_drawn : Addr
  fd__law_drawn : FuncData
  n__law_drawn : Fn K mg "_law_drawn" s__law_drawn P__law_drawn a__law_drawn fd__law_drawn
  a__law_inner : Addr
  fd__law_inner : FuncData
  n__law_inner : Fn K mg "_law_inner" s__law_inner P__law_inner a__law_inner fd__law_inner
  a__law_kind_by : Addr
  fd__law_kind_by : FuncData
  n__law_kind_by : Fn K mg "_law_kind_by" s__law_kind_by P__law_kind_by a__law_kind_by fd__law_kind_by
  a__law_parts : Addr
  fd__law_parts : FuncData
  n__law_parts : Fn K mg "_law_parts" s__law_parts P__law_parts a__law_parts fd__law_parts
  a__law_with : Addr
  fd__law_with : FuncData
  n__law_with : Fn K mg "_law_with" s__law_with P__law_with a__law_with fd__law_with
  a__law_told : Addr
  fd__law_told : FuncData
  n__law_told : Fn K mg "_law_told" s__law_told P__law_told a__law_told fd__law_told
  a_law : Addr
  fd_law : FuncData
  n_law : Fn K mg "law" s_law P_law a_law fd_law
  m_list : mg "list" = none
  m_reversed : mg "reversed" = none
  m_int : mg "int" = none
  m_enumerate : mg "enumerate" = none
  m_len : mg "len" = none
  m_tuple : mg "tuple" = none
  m_isinstance : mg "isinstance" = none
  m_ValueError : mg "ValueError" = none
  m_range : mg "range" = none
  m_min : mg "min" = none
  m_max : mg "max" = none
  c_ONE : Cst K mg "ONE" (.tup [(.str "one")])
  C_KindError : Addr
  C_NoFit : Addr
  C_NoKind : Addr
  C_NoLong : Addr
  C_NoMaking : Addr
  C_NoText : Addr
  C_TooLong : Addr
  C_TooMany : Addr
  bx_KindError : BaseX K mg "KindError" C_KindError
  fI_NoFit : Addr
  fdI_NoFit : FuncData
  xi_NoFit : ExI K mg "NoFit" "place" C_NoFit fI_NoFit fdI_NoFit "NoFit.__init__" s_NoFit___init__ P_NoFit___init__
  k_KindError : Cl K mg "KindError" C_KindError
  k_NoFit : Cl K mg "NoFit" C_NoFit
  k_NoKind : Cl K mg "NoKind" C_NoKind
  k_NoLong : Cl K mg "NoLong" C_NoLong
  k_NoMaking : Cl K mg "NoMaking" C_NoMaking
  k_NoText : Cl K mg "NoText" C_NoText
  k_TooLong : Cl K mg "TooLong" C_TooLong
  k_TooMany : Cl K mg "TooMany" C_TooMany
  ec_NoFit : ExcC K C_NoFit
  sb_NoFit_KindError : PySem.W.subIn K (.ref C_NoFit) (.ref C_KindError) = some true
  sb_NoFit_ValueError : PySem.W.subIn K (.ref C_NoFit) (.type "ValueError") = some true
  sb_NoFit_NoKind : PySem.W.subIn K (.ref C_NoFit) (.ref C_NoKind) = some false
  sb_NoFit_NoLong : PySem.W.subIn K (.ref C_NoFit) (.ref C_NoLong) = some false
  sb_NoFit_NoMaking : PySem.W.subIn K (.ref C_NoFit) (.ref C_NoMaking) = some false
  sb_NoFit_NoText : PySem.W.subIn K (.ref C_NoFit) (.ref C_NoText) = some false
  sb_NoFit_TooLong : PySem.W.subIn K (.ref C_NoFit) (.ref C_TooLong) = some false
  sb_NoFit_TooMany : PySem.W.subIn K (.ref C_NoFit) (.ref C_TooMany) = some false
section
variable {P : Program} {w : World} {K : PySem.W.Frag} {mg : Str → Option Value} {base : Heap}
abbrev FO_inner (P : Program) (w : World) (base : Heap) (T : Tx K mg) (k : Nat) (sp : DSp) : Prop := FnOk P w K mg base CX0 k T.a_inner T.fd_inner P_inner (liftSp K sp)
abbrev FO_known_as (P : Program) (w : World) (base : Heap) (T : Tx K mg) (k : Nat) (sp : DSp) : Prop := FnOk P w K mg base CX0 k T.a_known_as T.fd_known_as P_known_as (liftSp K sp)
abbrev FO_kind_here (P : Program) (w : World) (base : Heap) (T : Tx K mg) (k : Nat) (sp : DSp) : Prop := FnOk P w K mg base CX0 k T.a_kind_here T.fd_kind_here P_kind_here (liftSp K sp)
abbrev FO_kind_within (P : Program) (w : World) (base : Heap) (T : Tx K mg) (k : Nat) (sp : DSp) : Prop := FnOk P w K mg base (L2.CX P w) k T.a_kind_within T.fd_kind_within P_kind_within (liftSp K sp)
abbrev FO_kind_of (P : Program) (w : World) (base : Heap) (T : Tx K mg) (k : Nat) (sp : DSp) : Prop := FnOk P w K mg base (L2.CX P w) k T.a_kind_of T.fd_kind_of P_kind_of (liftSp K sp)
abbrev FO__law_pool (P : Program) (w : World) (base : Heap) (T : Tx K mg) (k : Nat) (sp : DSp) : Prop := FnOk P w K mg base CX0 k T.a__law_pool T.fd__law_pool P__law_pool (liftSp K sp)
abbrev FO__law_take (P : Program) (w : World) (base : Heap) (T : Tx K mg) (k : Nat) (sp : DSp) : Prop := FnOk P w K mg base CX0 k T.a__law_take T.fd__law_take P__law_take (liftSp K sp)
abbrev FO__law_kind (P : Program) (w : World) (base : Heap) (T : Tx K mg) (k : Nat) (sp : DSp) : Prop := FnOk P w K mg base CX0 k T.a__law_kind T.fd__law_kind P__law_kind (liftSp K sp)
abbrev FO__law_seen (P : Program) (w : World) (base : Heap) (T : Tx K mg) (k : Nat) (sp : DSp) : Prop := FnOk P w K mg base CX0 k T.a__law_seen T.fd__law_seen P__law_seen (liftSp K sp)
abbrev FO__law_uses (P : Program) (w : World) (base : Heap) (T : Tx K mg) (k : Nat) (sp : DSp) : Prop := FnOk P w K mg base CX0 k T.a__law_uses T.fd__law_uses P__law_uses (liftSp K sp)
abbrev FO__law_used (P : Program) (w : World) (base : Heap) (T : Tx K mg) (k : Nat) (sp : DSp) : Prop := FnOk P w K mg base CX0 k T.a__law_used T.fd__law_used P__law_used (liftSp K sp)
abbrev FO__law_made (P : Program) (w : World) (base : Heap) (T : Tx K mg) (k : Nat) (sp : DSp) : Prop := FnOk P w K mg base CX0 k T.a__law_made T.fd__law_made P__law_made (liftSp K sp)
abbrev FO__law_program (P : Program) (w : World) (base : Heap) (T : Tx K mg) (k : Nat) (sp : DSp) : Prop := FnOk P w K mg base CX0 k T.a__law_program T.fd__law_program P__law_program (liftSp K sp)
abbrev FO__law_row (P : Program) (w : World) (base : Heap) (T : Tx K mg) (k : Nat) (sp : DSp) : Prop := FnOk P w K mg base CX0 k T.a__law_row T.fd__law_row P__law_row (liftSp K sp)
abbrev FO__law_many (P : Program) (w : World) (base : Heap) (T : Tx K mg) (k : Nat) (sp : DSp) : Prop := FnOk P w K mg base CX0 k T.a__law_many T.fd__law_many P__law_many (liftSp K sp)
abbrev FO__law_words (P : Program) (w : World) (base : Heap) (T : Tx K mg) (k : Nat) (sp : DSp) : Prop := FnOk P w K mg base CX0 k T.a__law_words T.fd__law_words P__law_words (liftSp K sp)
abbrev FO__law_drawn (P : Program) (w : World) (base : Heap) (T : Tx K mg) (k : Nat) (sp : DSp) : Prop := FnOk P w K mg base CX0 k T.a__law_drawn T.fd__law_drawn P__law_drawn (liftSp K sp)
abbrev FO__law_inner (P : Program) (w : World) (base : Heap) (T : Tx K mg) (k : Nat) (sp : DSp) : Prop := FnOk P w K mg base CX0 k T.a__law_inner T.fd__law_inner P__law_inner (liftSp K sp)
abbrev FO__law_kind_by (P : Program) (w : World) (base : Heap) (T : Tx K mg) (k : Nat) (sp : DSp) : Prop := FnOk P w K mg base CX0 k T.a__law_kind_by T.fd__law_kind_by P__law_kind_by (liftSp K sp)
abbrev FO__law_parts (P : Program) (w : World) (base : Heap) (T : Tx K mg) (k : Nat) (sp : DSp) : Prop := FnOk P w K mg base CX0 k T.a__law_parts T.fd__law_parts P__law_parts (liftSp K sp)
abbrev FO__law_with (P : Program) (w : World) (base : Heap) (T : Tx K mg) (k : Nat) (sp : DSp) : Prop := FnOk P w K mg base CX0 k T.a__law_with T.fd__law_with P__law_with (liftSp K sp)
abbrev FO__law_told (P : Program) (w : World) (base : Heap) (T : Tx K mg) (k : Nat) (sp : DSp) : Prop := FnOk P w K mg base CX0 k T.a__law_told T.fd__law_told P__law_told (liftSp K sp)
abbrev FO_law (P : Program) (w : World) (base : Heap) (T : Tx K mg) (k : Nat) (sp : DSp) : Prop := FnOk P w K mg base CX0 k T.a_law T.fd_law P_law (liftSp K sp)
theorem gi_NoFit (T : Tx K mg) : FnOk P w K mg base CX0 1 T.fI_NoFit T.fdI_NoFit P_NoFit___init__ (spI T.C_NoFit "place") := ini_NoFit T.bx_KindError T.xi_NoFit.F T.xi_NoFit.T T.xi_NoFit.no
theorem fnd_inner {k : Nat} {dsp  : DSp} (T : Tx K mg) 
    (len : ∀ ds O R RE, dsp ds O R RE → ds.length = 1) (hread : ∀ ds O R RE, dsp ds O R RE → g_inner  { nx := fun _ O' => R .non O', rt := R } (startD N_inner ds) O) : FO_inner P w base T (k + 1) dsp :=
  fn_d (g := g_inner ) T.n_inner.F sc_inner len (der_inner T.m_list) hread
theorem fnd_known_as {k : Nat} {dsp  : DSp} (T : Tx K mg) 
    (len : ∀ ds O R RE, dsp ds O R RE → ds.length = 2) (hread : ∀ ds O R RE, dsp ds O R RE → g_known_as  { nx := fun _ O' => R .non O', rt := R } (startD N_known_as ds) O) : FO_known_as P w base T (k + 1) dsp :=
  fn_d (g := g_known_as ) T.n_known_as.F sc_known_as len (der_known_as T.m_reversed) hread
theorem fnd_kind_here {k : Nat} {dsp sp_known_as : DSp} (T : Tx K mg) (G_known_as : FO_known_as P w base T k sp_known_as)
    (len : ∀ ds O R RE, dsp ds O R RE → ds.length = 3) (hread : ∀ ds O R RE, dsp ds O R RE → g_kind_here sp_known_as (.tup [(.str "one")]) { nx := fun _ O' => R .non O', rt := R } (startD N_kind_here ds) O) : FO_kind_here P w base T (k + 1) dsp :=
  fn_d (g := g_kind_here sp_known_as (.tup [(.str "one")])) T.n_kind_here.F sc_kind_here len (der_kind_here T.n_known_as G_known_as T.m_int T.c_ONE) hread
theorem fnd_kind_within {k : Nat} {dsp sp_inner sp_kind_within sp_kind_here : DSp} (T : Tx K mg) (G_inner : FO_inner P w base T k sp_inner) (G_kind_within : FO_kind_within P w base T k sp_kind_within) (G_kind_here : FO_kind_here P w base T k sp_kind_here) (h2 : 2 ≤ k)
    (len : ∀ ds O R RE, dsp ds O R RE → ds.length = 3) (hread : ∀ ds O R RE, dsp ds O R RE → g_kind_within sp_inner sp_kind_within sp_kind_here T.C_NoFit (XG RE) { nx := fun _ O' => VG R .non O', rt := VG R } (startD N_kind_within ds) O) : FO_kind_within P w base T (k + 1) dsp :=
  fn_dX (g := g_kind_within sp_inner sp_kind_within sp_kind_here T.C_NoFit) T.n_kind_within.F sc_kind_within len (der_kind_within T.n_inner G_inner T.n_kind_within G_kind_within T.n_kind_here G_kind_here T.m_enumerate T.xi_NoFit (gi_NoFit T) h2) hread
theorem fnd_kind_of {k : Nat} {dsp sp_kind_within : DSp} (T : Tx K mg) (G_kind_within : FO_kind_within P w base T k sp_kind_within)
    (len : ∀ ds O R RE, dsp ds O R RE → ds.length = 2) (hread : ∀ ds O R RE, dsp ds O R RE → g_kind_of sp_kind_within (XG RE) { nx := fun _ O' => VG R .non O', rt := VG R } (startD N_kind_of ds) O) : FO_kind_of P w base T (k + 1) dsp :=
  fn_dX (g := g_kind_of sp_kind_within) T.n_kind_of.F sc_kind_of len (der_kind_of T.n_kind_within G_kind_within T.m_list) hread
theorem fnd__law_kind {k : Nat} {dsp sp__law_take sp__law_kind : DSp} (T : Tx K mg) (G__law_take : FO__law_take P w base T k sp__law_take) (G__law_kind : FO__law_kind P w base T k sp__law_kind)
    (len : ∀ ds O R RE, dsp ds O R RE → ds.length = 3) (hread : ∀ ds O R RE, dsp ds O R RE → g__law_kind sp__law_take sp__law_kind { nx := fun _ O' => R .non O', rt := R } (startD N__law_kind ds) O) : FO__law_kind P w base T (k + 1) dsp :=
  fn_d (g := g__law_kind sp__law_take sp__law_kind) T.n__law_kind.F sc__law_kind len (der__law_kind T.n__law_take G__law_take T.n__law_kind G__law_kind T.m_len) hread
theorem fndG__law_seen {k : Nat} {dsp  : DSp} (T : Tx K mg) 
    (len : ∀ ds O R RE, dsp ds O R RE → ds.length = 1) (hread : ∀ ds O R RE, dsp ds O R RE → g__law_seen  { nx := fun _ O' => VG R .non O', rt := VG R } (startD N__law_seen ds) O) : FO__law_seen P w base T (k + 1) dsp :=
  fn_dG (g := g__law_seen ) T.n__law_seen.F sc__law_seen len (der__law_seen ) hread
theorem fndG__law_uses {k : Nat} {dsp sp__law_uses : DSp} (T : Tx K mg) (G__law_uses : FO__law_uses P w base T k sp__law_uses)
    (len : ∀ ds O R RE, dsp ds O R RE → ds.length = 3) (hread : ∀ ds O R RE, dsp ds O R RE → g__law_uses sp__law_uses { nx := fun _ O' => VG R .non O', rt := VG R } (startD N__law_uses ds) O) : FO__law_uses P w base T (k + 1) dsp :=
  fn_dG (g := g__law_uses sp__law_uses) T.n__law_uses.F sc__law_uses len (der__law_uses T.n__law_uses G__law_uses) hread
theorem fnd__law_used {k : Nat} {dsp sp__law_seen sp__law_uses sp__law_take sp__law_program : DSp} (T : Tx K mg) (G__law_seen : FO__law_seen P w base T k sp__law_seen) (G__law_uses : FO__law_uses P w base T k sp__law_uses) (G__law_take : FO__law_take P w base T k sp__law_take) (G__law_program : FO__law_program P w base T k sp__law_program)
    (len : ∀ ds O R RE, dsp ds O R RE → ds.length = 4) (hread : ∀ ds O R RE, dsp ds O R RE → g__law_used sp__law_seen sp__law_uses sp__law_take sp__law_program { nx := fun _ O' => R .non O', rt := R } (startD N__law_used ds) O) : FO__law_used P w base T (k + 1) dsp :=
  fn_d (g := g__law_used sp__law_seen sp__law_uses sp__law_take sp__law_program) T.n__law_used.F sc__law_used len (der__law_used T.n__law_seen G__law_seen T.n__law_uses G__law_uses T.n__law_take G__law_take T.n__law_program G__law_program T.m_len) hread
theorem fnd__law_made {k : Nat} {dsp sp__law_program sp__law_take : DSp} (T : Tx K mg) (G__law_program : FO__law_program P w base T k sp__law_program) (G__law_take : FO__law_take P w base T k sp__law_take)
    (len : ∀ ds O R RE, dsp ds O R RE → ds.length = 4) (hread : ∀ ds O R RE, dsp ds O R RE → g__law_made sp__law_program sp__law_take { nx := fun _ O' => R .non O', rt := R } (startD N__law_made ds) O) : FO__law_made P w base T (k + 1) dsp :=
  fn_d (g := g__law_made sp__law_program sp__law_take) T.n__law_made.F sc__law_made len (der__law_made T.n__law_program G__law_program T.n__law_take G__law_take T.m_int) hread
theorem fnd__law_program {k : Nat} {dsp sp__law_take sp__law_kind sp__law_program sp__law_used sp__law_made : DSp} (T : Tx K mg) (G__law_take : FO__law_take P w base T k sp__law_take) (G__law_kind : FO__law_kind P w base T k sp__law_kind) (G__law_program : FO__law_program P w base T k sp__law_program) (G__law_used : FO__law_used P w base T k sp__law_used) (G__law_made : FO__law_made P w base T k sp__law_made)
    (len : ∀ ds O R RE, dsp ds O R RE → ds.length = 4) (hread : ∀ ds O R RE, dsp ds O R RE → g__law_program sp__law_take sp__law_kind sp__law_program sp__law_used sp__law_made { nx := fun _ O' => R .non O', rt := R } (startD N__law_program ds) O) : FO__law_program P w base T (k + 1) dsp :=
  fn_d (g := g__law_program sp__law_take sp__law_kind sp__law_program sp__law_used sp__law_made) T.n__law_program.F sc__law_program len (der__law_program T.n__law_take G__law_take T.n__law_kind G__law_kind T.n__law_program G__law_program T.n__law_used G__law_used T.n__law_made G__law_made) hread
theorem fnd__law_row {k : Nat} {dsp sp__law_take sp__law_kind : DSp} (T : Tx K mg) (G__law_take : FO__law_take P w base T k sp__law_take) (G__law_kind : FO__law_kind P w base T k sp__law_kind)
    (len : ∀ ds O R RE, dsp ds O R RE → ds.length = 1) (hread : ∀ ds O R RE, dsp ds O R RE → g__law_row sp__law_take sp__law_kind { nx := fun _ O' => R .non O', rt := R } (startD N__law_row ds) O) : FO__law_row P w base T (k + 1) dsp :=
  fn_d (g := g__law_row sp__law_take sp__law_kind) T.n__law_row.F sc__law_row len (der__law_row T.n__law_take G__law_take T.n__law_kind G__law_kind) hread
theorem fndG__law_many {k : Nat} {dsp sp__law_words : DSp} (T : Tx K mg) (G__law_words : FO__law_words P w base T k sp__law_words)
    (len : ∀ ds O R RE, dsp ds O R RE → ds.length = 1) (hread : ∀ ds O R RE, dsp ds O R RE → g__law_many sp__law_words { nx := fun _ O' => VG R .non O', rt := VG R } (startD N__law_many ds) O) : FO__law_many P w base T (k + 1) dsp :=
  fn_dG (g := g__law_many sp__law_words) T.n__law_many.F sc__law_many len (der__law_many T.n__law_words G__law_words T.m_tuple T.m_isinstance) hread
theorem fnd__law_words {k : Nat} {dsp  : DSp} (T : Tx K mg) 
    (len : ∀ ds O R RE, dsp ds O R RE → ds.length = 0) (hread : ∀ ds O R RE, dsp ds O R RE → g__law_words  { nx := fun _ O' => R .non O', rt := R } (startD N__law_words ds) O) : FO__law_words P w base T (k + 1) dsp :=
  fn_d (g := g__law_words ) T.n__law_words.F sc__law_words len (der__law_words ) hread
theorem fnd__law_drawn {k : Nat} {dsp sp__law_kind sp__law_take sp__law_program sp__law_many : DSp} (T : Tx K mg) (G__law_kind : FO__law_kind P w base T k sp__law_kind) (G__law_take : FO__law_take P w base T k sp__law_take) (G__law_program : FO__law_program P w base T k sp__law_program) (G__law_many : FO__law_many P w base T k sp__law_many)
    (len : ∀ ds O R RE, dsp ds O R RE → ds.length = 3) (hread : ∀ ds O R RE, dsp ds O R RE → g__law_drawn sp__law_kind sp__law_take sp__law_program sp__law_many { nx := fun _ O' => R .non O', rt := R } (startD N__law_drawn ds) O) : FO__law_drawn P w base T (k + 1) dsp :=
  fn_d (g := g__law_drawn sp__law_kind sp__law_take sp__law_program sp__law_many) T.n__law_drawn.F sc__law_drawn len (der__law_drawn T.n__law_kind G__law_kind T.n__law_take G__law_take T.n__law_program G__law_program T.n__law_many G__law_many T.m_list) hread
theorem fnd__law_inner {k : Nat} {dsp  : DSp} (T : Tx K mg) 
    (len : ∀ ds O R RE, dsp ds O R RE → ds.length = 1) (hread : ∀ ds O R RE, dsp ds O R RE → g__law_inner  { nx := fun _ O' => R .non O', rt := R } (startD N__law_inner ds) O) : FO__law_inner P w base T (k + 1) dsp :=
  fn_d (g := g__law_inner ) T.n__law_inner.F sc__law_inner len (der__law_inner T.m_list) hread
theorem fndG__law_kind_by {k : Nat} {dsp sp__law_kind_by : DSp} (T : Tx K mg) (G__law_kind_by : FO__law_kind_by P w base T k sp__law_kind_by)
    (len : ∀ ds O R RE, dsp ds O R RE → ds.length = 3) (hread : ∀ ds O R RE, dsp ds O R RE → g__law_kind_by sp__law_kind_by { nx := fun _ O' => VG R .non O', rt := VG R } (startD N__law_kind_by ds) O) : FO__law_kind_by P w base T (k + 1) dsp :=
  fn_dG (g := g__law_kind_by sp__law_kind_by) T.n__law_kind_by.F sc__law_kind_by len (der__law_kind_by T.n__law_kind_by G__law_kind_by T.m_list T.m_enumerate) hread
theorem fnd__law_parts {k : Nat} {dsp sp__law_inner sp__law_parts : DSp} (T : Tx K mg) (G__law_inner : FO__law_inner P w base T k sp__law_inner) (G__law_parts : FO__law_parts P w base T k sp__law_parts)
    (len : ∀ ds O R RE, dsp ds O R RE → ds.length = 2) (hread : ∀ ds O R RE, dsp ds O R RE → g__law_parts sp__law_inner sp__law_parts { nx := fun _ O' => R .non O', rt := R } (startD N__law_parts ds) O) : FO__law_parts P w base T (k + 1) dsp :=
  fn_d (g := g__law_parts sp__law_inner sp__law_parts) T.n__law_parts.F sc__law_parts len (der__law_parts T.n__law_inner G__law_inner T.n__law_parts G__law_parts T.m_enumerate) hread
theorem fnd__law_with {k : Nat} {dsp sp__law_with : DSp} (T : Tx K mg) (G__law_with : FO__law_with P w base T k sp__law_with)
    (len : ∀ ds O R RE, dsp ds O R RE → ds.length = 3) (hread : ∀ ds O R RE, dsp ds O R RE → g__law_with sp__law_with { nx := fun _ O' => R .non O', rt := R } (startD N__law_with ds) O) : FO__law_with P w base T (k + 1) dsp :=
  fn_d (g := g__law_with sp__law_with) T.n__law_with.F sc__law_with len (der__law_with T.n__law_with G__law_with) hread
theorem fndG__law_told {k : Nat} {dsp sp_kind_of : DSp} (T : Tx K mg) (G_kind_of : FO_kind_of P w base T k sp_kind_of)
    (len : ∀ ds O R RE, dsp ds O R RE → ds.length = 2) (hread : ∀ ds O R RE, dsp ds O R RE → g__law_told sp_kind_of K T.C_KindError T.C_NoFit T.C_NoKind T.C_NoLong T.C_NoMaking T.C_NoText T.C_TooLong T.C_TooMany { nx := fun _ O' => VG R .non O', rt := VG R } (startD N__law_told ds) O) : FO__law_told P w base T (k + 1) dsp :=
  fn_dG (g := g__law_told sp_kind_of K T.C_KindError T.C_NoFit T.C_NoKind T.C_NoLong T.C_NoMaking T.C_NoText T.C_TooLong T.C_TooMany) T.n__law_told.F sc__law_told len (der__law_told T.n_kind_of G_kind_of T.m_isinstance T.m_ValueError T.m_list T.k_KindError T.k_NoFit T.k_NoKind T.k_NoLong T.k_NoMaking T.k_NoText T.k_TooLong T.k_TooMany) hread
theorem fndG_law {k : Nat} {dsp sp__law_pool sp__law_row sp__law_drawn sp__law_told sp__law_parts sp__law_take sp__law_with sp__law_kind_by : DSp} (T : Tx K mg) (G__law_pool : FO__law_pool P w base T k sp__law_pool) (G__law_row : FO__law_row P w base T k sp__law_row) (G__law_drawn : FO__law_drawn P w base T k sp__law_drawn) (G__law_told : FO__law_told P w base T k sp__law_told) (G__law_parts : FO__law_parts P w base T k sp__law_parts) (G__law_take : FO__law_take P w base T k sp__law_take) (G__law_with : FO__law_with P w base T k sp__law_with) (G__law_kind_by : FO__law_kind_by P w base T k sp__law_kind_by)
    (len : ∀ ds O R RE, dsp ds O R RE → ds.length = 1) (hread : ∀ ds O R RE, dsp ds O R RE → g_law sp__law_pool sp__law_row sp__law_drawn sp__law_told sp__law_parts sp__law_take sp__law_with sp__law_kind_by { nx := fun _ O' => VG R .non O', rt := VG R } (startD N_law ds) O) : FO_law P w base T (k + 1) dsp :=
  fn_dG (g := g_law sp__law_pool sp__law_row sp__law_drawn sp__law_told sp__law_parts sp__law_take sp__law_with sp__law_kind_by) T.n_law.F sc_law len (der_law T.n__law_pool G__law_pool T.n__law_row G__law_row T.n__law_drawn G__law_drawn T.n__law_told G__law_told T.n__law_parts G__law_parts T.n__law_take G__law_take T.n__law_with G__law_with T.n__law_kind_by G__law_kind_by T.m_range T.m_len T.m_min T.m_max T.m_list T.m_int) hread
end
end Kf
/-! Kpg: programs as data. -/
namespace Kf
open PySem PySem.Spec L2
open PyProof.Rows hiding St
/-! ### words -/
section
variable {neg : Bool} {O : Ow} {Q : VD}
theorem rIn_ws {z : Str} {ts : List Str} (hz : PyData.strOk z = true) (h : ∀ t ∈ ts, PyData.strOk t = true) : rInD neg (.str z) (.tup (ts.map .str)) O Q = Q (.bl (neg ^^ decide (z ∈ ts))) O := by
  have h1 : isPys (ts.map D.str) = true := by
    rw [isPys_all, List.all_eq_true]
    intro d hd
    obtain ⟨t, ht, rfl⟩ := List.mem_map.mp hd
    simp only [isPy, h t ht]
  have h2 : (ts.map D.str).any (fun x => PyData.eqv (toPy x) (toPy (.str z))) = decide (z ∈ ts) := by
    clear h h1
    induction ts with
    | nil => simp
    | cons t ts ih =>
      have e : PyData.eqv (toPy (.str t)) (toPy (.str z)) = decide (t = z) := deq_s
      rw [List.map_cons, List.any_cons, ih, e]
      by_cases h : t = z
      · subst h; simp
      · have h' : ¬ z = t := fun q => h q.symm
        simp [h, h']
  simp only [rInD, deref_str, deref_tup, isPy, hz, h1, h2, true_and]
  first | rfl | simp [dp, toPy, PyData.depth]
theorem sw_name : PyData.strOk (Str.ofString "name") = true := by decide +kernel
theorem sw_thing : PyData.strOk (Str.ofString "thing") = true := by decide +kernel
theorem sw_take : PyData.strOk (Str.ofString "take") = true := by decide +kernel
theorem sw_give : PyData.strOk (Str.ofString "give") = true := by decide +kernel
theorem sw_pair : PyData.strOk (Str.ofString "pair") = true := by decide +kernel
theorem sw_first : PyData.strOk (Str.ofString "first") = true := by decide +kernel
theorem sw_second : PyData.strOk (Str.ofString "second") = true := by decide +kernel
theorem sw_mark : PyData.strOk (Str.ofString "mark") = true := by decide +kernel
theorem sw_one : PyData.strOk (Str.ofString "one") = true := by decide +kernel
theorem sw_to : PyData.strOk (Str.ofString "to") = true := by decide +kernel
theorem sw_both : PyData.strOk (Str.ofString "both") = true := by decide +kernel
theorem sw_at : PyData.strOk (Str.ofString "at") = true := by decide +kernel
theorem te_name_take : rEqD neg (.str (Str.ofString "name")) (.str (Str.ofString "take")) O Q = Q (.bl neg) O := by
  rw [rEq_s sw_name sw_take, show decide (Str.ofString "name" = Str.ofString "take") = false by decide +kernel]; cases neg <;> rfl
theorem te_name_give : rEqD neg (.str (Str.ofString "name")) (.str (Str.ofString "give")) O Q = Q (.bl neg) O := by
  rw [rEq_s sw_name sw_give, show decide (Str.ofString "name" = Str.ofString "give") = false by decide +kernel]; cases neg <;> rfl
theorem te_name_pair : rEqD neg (.str (Str.ofString "name")) (.str (Str.ofString "pair")) O Q = Q (.bl neg) O := by
  rw [rEq_s sw_name sw_pair, show decide (Str.ofString "name" = Str.ofString "pair") = false by decide +kernel]; cases neg <;> rfl
theorem te_name_first : rEqD neg (.str (Str.ofString "name")) (.str (Str.ofString "first")) O Q = Q (.bl neg) O := by
  rw [rEq_s sw_name sw_first, show decide (Str.ofString "name" = Str.ofString "first") = false by decide +kernel]; cases neg <;> rfl
theorem te_name_second : rEqD neg (.str (Str.ofString "name")) (.str (Str.ofString "second")) O Q = Q (.bl neg) O := by
  rw [rEq_s sw_name sw_second, show decide (Str.ofString "name" = Str.ofString "second") = false by decide +kernel]; cases neg <;> rfl
theorem te_name_to : rEqD neg (.str (Str.ofString "name")) (.str (Str.ofString "to")) O Q = Q (.bl neg) O := by
  rw [rEq_s sw_name sw_to, show decide (Str.ofString "name" = Str.ofString "to") = false by decide +kernel]; cases neg <;> rfl
theorem te_name_both : rEqD neg (.str (Str.ofString "name")) (.str (Str.ofString "both")) O Q = Q (.bl neg) O := by
  rw [rEq_s sw_name sw_both, show decide (Str.ofString "name" = Str.ofString "both") = false by decide +kernel]; cases neg <;> rfl
theorem te_name_one : rEqD neg (.str (Str.ofString "name")) (.str (Str.ofString "one")) O Q = Q (.bl neg) O := by
  rw [rEq_s sw_name sw_one, show decide (Str.ofString "name" = Str.ofString "one") = false by decide +kernel]; cases neg <;> rfl
theorem te_name_mark : rEqD neg (.str (Str.ofString "name")) (.str (Str.ofString "mark")) O Q = Q (.bl neg) O := by
  rw [rEq_s sw_name sw_mark, show decide (Str.ofString "name" = Str.ofString "mark") = false by decide +kernel]; cases neg <;> rfl
theorem te_name_name : rEqD neg (.str (Str.ofString "name")) (.str (Str.ofString "name")) O Q = Q (.bl !neg) O := by
  rw [rEq_s sw_name sw_name, show decide (Str.ofString "name" = Str.ofString "name") = true by decide +kernel]; cases neg <;> rfl
theorem te_name_thing : rEqD neg (.str (Str.ofString "name")) (.str (Str.ofString "thing")) O Q = Q (.bl neg) O := by
  rw [rEq_s sw_name sw_thing, show decide (Str.ofString "name" = Str.ofString "thing") = false by decide +kernel]; cases neg <;> rfl
theorem te_name_at : rEqD neg (.str (Str.ofString "name")) (.str (Str.ofString "at")) O Q = Q (.bl neg) O := by
  rw [rEq_s sw_name sw_at, show decide (Str.ofString "name" = Str.ofString "at") = false by decide +kernel]; cases neg <;> rfl
theorem te_thing_take : rEqD neg (.str (Str.ofString "thing")) (.str (Str.ofString "take")) O Q = Q (.bl neg) O := by
  rw [rEq_s sw_thing sw_take, show decide (Str.ofString "thing" = Str.ofString "take") = false by decide +kernel]; cases neg <;> rfl
theorem te_thing_give : rEqD neg (.str (Str.ofString "thing")) (.str (Str.ofString "give")) O Q = Q (.bl neg) O := by
  rw [rEq_s sw_thing sw_give, show decide (Str.ofString "thing" = Str.ofString "give") = false by decide +kernel]; cases neg <;> rfl
theorem te_thing_pair : rEqD neg (.str (Str.ofString "thing")) (.str (Str.ofString "pair")) O Q = Q (.bl neg) O := by
  rw [rEq_s sw_thing sw_pair, show decide (Str.ofString "thing" = Str.ofString "pair") = false by decide +kernel]; cases neg <;> rfl
theorem te_thing_first : rEqD neg (.str (Str.ofString "thing")) (.str (Str.ofString "first")) O Q = Q (.bl neg) O := by
  rw [rEq_s sw_thing sw_first, show decide (Str.ofString "thing" = Str.ofString "first") = false by decide +kernel]; cases neg <;> rfl
theorem te_thing_second : rEqD neg (.str (Str.ofString "thing")) (.str (Str.ofString "second")) O Q = Q (.bl neg) O := by
  rw [rEq_s sw_thing sw_second, show decide (Str.ofString "thing" = Str.ofString "second") = false by decide +kernel]; cases neg <;> rfl
theorem te_thing_to : rEqD neg (.str (Str.ofString "thing")) (.str (Str.ofString "to")) O Q = Q (.bl neg) O := by
  rw [rEq_s sw_thing sw_to, show decide (Str.ofString "thing" = Str.ofString "to") = false by decide +kernel]; cases neg <;> rfl
theorem te_thing_both : rEqD neg (.str (Str.ofString "thing")) (.str (Str.ofString "both")) O Q = Q (.bl neg) O := by
  rw [rEq_s sw_thing sw_both, show decide (Str.ofString "thing" = Str.ofString "both") = false by decide +kernel]; cases neg <;> rfl
theorem te_thing_one : rEqD neg (.str (Str.ofString "thing")) (.str (Str.ofString "one")) O Q = Q (.bl neg) O := by
  rw [rEq_s sw_thing sw_one, show decide (Str.ofString "thing" = Str.ofString "one") = false by decide +kernel]; cases neg <;> rfl
theorem te_thing_mark : rEqD neg (.str (Str.ofString "thing")) (.str (Str.ofString "mark")) O Q = Q (.bl neg) O := by
  rw [rEq_s sw_thing sw_mark, show decide (Str.ofString "thing" = Str.ofString "mark") = false by decide +kernel]; cases neg <;> rfl
theorem te_thing_name : rEqD neg (.str (Str.ofString "thing")) (.str (Str.ofString "name")) O Q = Q (.bl neg) O := by
  rw [rEq_s sw_thing sw_name, show decide (Str.ofString "thing" = Str.ofString "name") = false by decide +kernel]; cases neg <;> rfl
theorem te_thing_thing : rEqD neg (.str (Str.ofString "thing")) (.str (Str.ofString "thing")) O Q = Q (.bl !neg) O := by
  rw [rEq_s sw_thing sw_thing, show decide (Str.ofString "thing" = Str.ofString "thing") = true by decide +kernel]; cases neg <;> rfl
theorem te_thing_at : rEqD neg (.str (Str.ofString "thing")) (.str (Str.ofString "at")) O Q = Q (.bl neg) O := by
  rw [rEq_s sw_thing sw_at, show decide (Str.ofString "thing" = Str.ofString "at") = false by decide +kernel]; cases neg <;> rfl
theorem te_take_take : rEqD neg (.str (Str.ofString "take")) (.str (Str.ofString "take")) O Q = Q (.bl !neg) O := by
  rw [rEq_s sw_take sw_take, show decide (Str.ofString "take" = Str.ofString "take") = true by decide +kernel]; cases neg <;> rfl
theorem te_take_give : rEqD neg (.str (Str.ofString "take")) (.str (Str.ofString "give")) O Q = Q (.bl neg) O := by
  rw [rEq_s sw_take sw_give, show decide (Str.ofString "take" = Str.ofString "give") = false by decide +kernel]; cases neg <;> rfl
theorem te_take_pair : rEqD neg (.str (Str.ofString "take")) (.str (Str.ofString "pair")) O Q = Q (.bl neg) O := by
  rw [rEq_s sw_take sw_pair, show decide (Str.ofString "take" = Str.ofString "pair") = false by decide +kernel]; cases neg <;> rfl
theorem te_take_first : rEqD neg (.str (Str.ofString "take")) (.str (Str.ofString "first")) O Q = Q (.bl neg) O := by
  rw [rEq_s sw_take sw_first, show decide (Str.ofString "take" = Str.ofString "first") = false by decide +kernel]; cases neg <;> rfl
theorem te_take_second : rEqD neg (.str (Str.ofString "take")) (.str (Str.ofString "second")) O Q = Q (.bl neg) O := by
  rw [rEq_s sw_take sw_second, show decide (Str.ofString "take" = Str.ofString "second") = false by decide +kernel]; cases neg <;> rfl
theorem te_take_to : rEqD neg (.str (Str.ofString "take")) (.str (Str.ofString "to")) O Q = Q (.bl neg) O := by
  rw [rEq_s sw_take sw_to, show decide (Str.ofString "take" = Str.ofString "to") = false by decide +kernel]; cases neg <;> rfl
theorem te_take_both : rEqD neg (.str (Str.ofString "take")) (.str (Str.ofString "both")) O Q = Q (.bl neg) O := by
  rw [rEq_s sw_take sw_both, show decide (Str.ofString "take" = Str.ofString "both") = false by decide +kernel]; cases neg <;> rfl
theorem te_take_one : rEqD neg (.str (Str.ofString "take")) (.str (Str.ofString "one")) O Q = Q (.bl neg) O := by
  rw [rEq_s sw_take sw_one, show decide (Str.ofString "take" = Str.ofString "one") = false by decide +kernel]; cases neg <;> rfl
theorem te_take_mark : rEqD neg (.str (Str.ofString "take")) (.str (Str.ofString "mark")) O Q = Q (.bl neg) O := by
  rw [rEq_s sw_take sw_mark, show decide (Str.ofString "take" = Str.ofString "mark") = false by decide +kernel]; cases neg <;> rfl
theorem te_take_name : rEqD neg (.str (Str.ofString "take")) (.str (Str.ofString "name")) O Q = Q (.bl neg) O := by
  rw [rEq_s sw_take sw_name, show decide (Str.ofString "take" = Str.ofString "name") = false by decide +kernel]; cases neg <;> rfl
theorem te_take_thing : rEqD neg (.str (Str.ofString "take")) (.str (Str.ofString "thing")) O Q = Q (.bl neg) O := by
  rw [rEq_s sw_take sw_thing, show decide (Str.ofString "take" = Str.ofString "thing") = false by decide +kernel]; cases neg <;> rfl
theorem te_take_at : rEqD neg (.str (Str.ofString "take")) (.str (Str.ofString "at")) O Q = Q (.bl neg) O := by
  rw [rEq_s sw_take sw_at, show decide (Str.ofString "take" = Str.ofString "at") = false by decide +kernel]; cases neg <;> rfl
theorem te_give_take : rEqD neg (.str (Str.ofString "give")) (.str (Str.ofString "take")) O Q = Q (.bl neg) O := by
  rw [rEq_s sw_give sw_take, show decide (Str.ofString "give" = Str.ofString "take") = false by decide +kernel]; cases neg <;> rfl
theorem te_give_give : rEqD neg (.str (Str.ofString "give")) (.str (Str.ofString "give")) O Q = Q (.bl !neg) O := by
  rw [rEq_s sw_give sw_give, show decide (Str.ofString "give" = Str.ofString "give") = true by decide +kernel]; cases neg <;> rfl
theorem te_give_pair : rEqD neg (.str (Str.ofString "give")) (.str (Str.ofString "pair")) O Q = Q (.bl neg) O := by
  rw [rEq_s sw_give sw_pair, show decide (Str.ofString "give" = Str.ofString "pair") = false by decide +kernel]; cases neg <;> rfl
theorem te_give_first : rEqD neg (.str (Str.ofString "give")) (.str (Str.ofString "first")) O Q = Q (.bl neg) O := by
  rw [rEq_s sw_give sw_first, show decide (Str.ofString "give" = Str.ofString "first") = false by decide +kernel]; cases neg <;> rfl
theorem te_give_second : rEqD neg (.str (Str.ofString "give")) (.str (Str.ofString "second")) O Q = Q (.bl neg) O := by
  rw [rEq_s sw_give sw_second, show decide (Str.ofString "give" = Str.ofString "second") = false by decide +kernel]; cases neg <;> rfl
theorem te_give_to : rEqD neg (.str (Str.ofString "give")) (.str (Str.ofString "to")) O Q = Q (.bl neg) O := by
  rw [rEq_s sw_give sw_to, show decide (Str.ofString "give" = Str.ofString "to") = false by decide +kernel]; cases neg <;> rfl
theorem te_give_both : rEqD neg (.str (Str.ofString "give")) (.str (Str.ofString "both")) O Q = Q (.bl neg) O := by
  rw [rEq_s sw_give sw_both, show decide (Str.ofString "give" = Str.ofString "both") = false by decide +kernel]; cases neg <;> rfl
theorem te_give_one : rEqD neg (.str (Str.ofString "give")) (.str (Str.ofString "one")) O Q = Q (.bl neg) O := by
  rw [rEq_s sw_give sw_one, show decide (Str.ofString "give" = Str.ofString "one") = false by decide +kernel]; cases neg <;> rfl
theorem te_give_mark : rEqD neg (.str (Str.ofString "give")) (.str (Str.ofString "mark")) O Q = Q (.bl neg) O := by
  rw [rEq_s sw_give sw_mark, show decide (Str.ofString "give" = Str.ofString "mark") = false by decide +kernel]; cases neg <;> rfl
theorem te_give_name : rEqD neg (.str (Str.ofString "give")) (.str (Str.ofString "name")) O Q = Q (.bl neg) O := by
  rw [rEq_s sw_give sw_name, show decide (Str.ofString "give" = Str.ofString "name") = false by decide +kernel]; cases neg <;> rfl
theorem te_give_thing : rEqD neg (.str (Str.ofString "give")) (.str (Str.ofString "thing")) O Q = Q (.bl neg) O := by
  rw [rEq_s sw_give sw_thing, show decide (Str.ofString "give" = Str.ofString "thing") = false by decide +kernel]; cases neg <;> rfl
theorem te_give_at : rEqD neg (.str (Str.ofString "give")) (.str (Str.ofString "at")) O Q = Q (.bl neg) O := by
  rw [rEq_s sw_give sw_at, show decide (Str.ofString "give" = Str.ofString "at") = false by decide +kernel]; cases neg <;> rfl
theorem te_pair_take : rEqD neg (.str (Str.ofString "pair")) (.str (Str.ofString "take")) O Q = Q (.bl neg) O := by
  rw [rEq_s sw_pair sw_take, show decide (Str.ofString "pair" = Str.ofString "take") = false by decide +kernel]; cases neg <;> rfl
theorem te_pair_give : rEqD neg (.str (Str.ofString "pair")) (.str (Str.ofString "give")) O Q = Q (.bl neg) O := by
  rw [rEq_s sw_pair sw_give, show decide (Str.ofString "pair" = Str.ofString "give") = false by decide +kernel]; cases neg <;> rfl
theorem te_pair_pair : rEqD neg (.str (Str.ofString "pair")) (.str (Str.ofString "pair")) O Q = Q (.bl !neg) O := by
  rw [rEq_s sw_pair sw_pair, show decide (Str.ofString "pair" = Str.ofString "pair") = true by decide +kernel]; cases neg <;> rfl
theorem te_pair_first : rEqD neg (.str (Str.ofString "pair")) (.str (Str.ofString "first")) O Q = Q (.bl neg) O := by
  rw [rEq_s sw_pair sw_first, show decide (Str.ofString "pair" = Str.ofString "first") = false by decide +kernel]; cases neg <;> rfl
theorem te_pair_second : rEqD neg (.str (Str.ofString "pair")) (.str (Str.ofString "second")) O Q = Q (.bl neg) O := by
  rw [rEq_s sw_pair sw_second, show decide (Str.ofString "pair" = Str.ofString "second") = false by decide +kernel]; cases neg <;> rfl
theorem te_pair_to : rEqD neg (.str (Str.ofString "pair")) (.str (Str.ofString "to")) O Q = Q (.bl neg) O := by
  rw [rEq_s sw_pair sw_to, show decide (Str.ofString "pair" = Str.ofString "to") = false by decide +kernel]; cases neg <;> rfl
theorem te_pair_both : rEqD neg (.str (Str.ofString "pair")) (.str (Str.ofString "both")) O Q = Q (.bl neg) O := by
  rw [rEq_s sw_pair sw_both, show decide (Str.ofString "pair" = Str.ofString "both") = false by decide +kernel]; cases neg <;> rfl
theorem te_pair_one : rEqD neg (.str (Str.ofString "pair")) (.str (Str.ofString "one")) O Q = Q (.bl neg) O := by
  rw [rEq_s sw_pair sw_one, show decide (Str.ofString "pair" = Str.ofString "one") = false by decide +kernel]; cases neg <;> rfl
theorem te_pair_mark : rEqD neg (.str (Str.ofString "pair")) (.str (Str.ofString "mark")) O Q = Q (.bl neg) O := by
  rw [rEq_s sw_pair sw_mark, show decide (Str.ofString "pair" = Str.ofString "mark") = false by decide +kernel]; cases neg <;> rfl
theorem te_pair_name : rEqD neg (.str (Str.ofString "pair")) (.str (Str.ofString "name")) O Q = Q (.bl neg) O := by
  rw [rEq_s sw_pair sw_name, show decide (Str.ofString "pair" = Str.ofString "name") = false by decide +kernel]; cases neg <;> rfl
theorem te_pair_thing : rEqD neg (.str (Str.ofString "pair")) (.str (Str.ofString "thing")) O Q = Q (.bl neg) O := by
  rw [rEq_s sw_pair sw_thing, show decide (Str.ofString "pair" = Str.ofString "thing") = false by decide +kernel]; cases neg <;> rfl
theorem te_pair_at : rEqD neg (.str (Str.ofString "pair")) (.str (Str.ofString "at")) O Q = Q (.bl neg) O := by
  rw [rEq_s sw_pair sw_at, show decide (Str.ofString "pair" = Str.ofString "at") = false by decide +kernel]; cases neg <;> rfl
theorem te_first_take : rEqD neg (.str (Str.ofString "first")) (.str (Str.ofString "take")) O Q = Q (.bl neg) O := by
  rw [rEq_s sw_first sw_take, show decide (Str.ofString "first" = Str.ofString "take") = false by decide +kernel]; cases neg <;> rfl
theorem te_first_give : rEqD neg (.str (Str.ofString "first")) (.str (Str.ofString "give")) O Q = Q (.bl neg) O := by
  rw [rEq_s sw_first sw_give, show decide (Str.ofString "first" = Str.ofString "give") = false by decide +kernel]; cases neg <;> rfl
theorem te_first_pair : rEqD neg (.str (Str.ofString "first")) (.str (Str.ofString "pair")) O Q = Q (.bl neg) O := by
  rw [rEq_s sw_first sw_pair, show decide (Str.ofString "first" = Str.ofString "pair") = false by decide +kernel]; cases neg <;> rfl
theorem te_first_first : rEqD neg (.str (Str.ofString "first")) (.str (Str.ofString "first")) O Q = Q (.bl !neg) O := by
  rw [rEq_s sw_first sw_first, show decide (Str.ofString "first" = Str.ofString "first") = true by decide +kernel]; cases neg <;> rfl
theorem te_first_second : rEqD neg (.str (Str.ofString "first")) (.str (Str.ofString "second")) O Q = Q (.bl neg) O := by
  rw [rEq_s sw_first sw_second, show decide (Str.ofString "first" = Str.ofString "second") = false by decide +kernel]; cases neg <;> rfl
theorem te_first_to : rEqD neg (.str (Str.ofString "first")) (.str (Str.ofString "to")) O Q = Q (.bl neg) O := by
  rw [rEq_s sw_first sw_to, show decide (Str.ofString "first" = Str.ofString "to") = false by decide +kernel]; cases neg <;> rfl
theorem te_first_both : rEqD neg (.str (Str.ofString "first")) (.str (Str.ofString "both")) O Q = Q (.bl neg) O := by
  rw [rEq_s sw_first sw_both, show decide (Str.ofString "first" = Str.ofString "both") = false by decide +kernel]; cases neg <;> rfl
theorem te_first_one : rEqD neg (.str (Str.ofString "first")) (.str (Str.ofString "one")) O Q = Q (.bl neg) O := by
  rw [rEq_s sw_first sw_one, show decide (Str.ofString "first" = Str.ofString "one") = false by decide +kernel]; cases neg <;> rfl
theorem te_first_mark : rEqD neg (.str (Str.ofString "first")) (.str (Str.ofString "mark")) O Q = Q (.bl neg) O := by
  rw [rEq_s sw_first sw_mark, show decide (Str.ofString "first" = Str.ofString "mark") = false by decide +kernel]; cases neg <;> rfl
theorem te_first_name : rEqD neg (.str (Str.ofString "first")) (.str (Str.ofString "name")) O Q = Q (.bl neg) O := by
  rw [rEq_s sw_first sw_name, show decide (Str.ofString "first" = Str.ofString "name") = false by decide +kernel]; cases neg <;> rfl
theorem te_first_thing : rEqD neg (.str (Str.ofString "first")) (.str (Str.ofString "thing")) O Q = Q (.bl neg) O := by
  rw [rEq_s sw_first sw_thing, show decide (Str.ofString "first" = Str.ofString "thing") = false by decide +kernel]; cases neg <;> rfl
theorem te_first_at : rEqD neg (.str (Str.ofString "first")) (.str (Str.ofString "at")) O Q = Q (.bl neg) O := by
  rw [rEq_s sw_first sw_at, show decide (Str.ofString "first" = Str.ofString "at") = false by decide +kernel]; cases neg <;> rfl
theorem te_second_take : rEqD neg (.str (Str.ofString "second")) (.str (Str.ofString "take")) O Q = Q (.bl neg) O := by
  rw [rEq_s sw_second sw_take, show decide (Str.ofString "second" = Str.ofString "take") = false by decide +kernel]; cases neg <;> rfl
theorem te_second_give : rEqD neg (.str (Str.ofString "second")) (.str (Str.ofString "give")) O Q = Q (.bl neg) O := by
  rw [rEq_s sw_second sw_give, show decide (Str.ofString "second" = Str.ofString "give") = false by decide +kernel]; cases neg <;> rfl
theorem te_second_pair : rEqD neg (.str (Str.ofString "second")) (.str (Str.ofString "pair")) O Q = Q (.bl neg) O := by
  rw [rEq_s sw_second sw_pair, show decide (Str.ofString "second" = Str.ofString "pair") = false by decide +kernel]; cases neg <;> rfl
theorem te_second_first : rEqD neg (.str (Str.ofString "second")) (.str (Str.ofString "first")) O Q = Q (.bl neg) O := by
  rw [rEq_s sw_second sw_first, show decide (Str.ofString "second" = Str.ofString "first") = false by decide +kernel]; cases neg <;> rfl
theorem te_second_second : rEqD neg (.str (Str.ofString "second")) (.str (Str.ofString "second")) O Q = Q (.bl !neg) O := by
  rw [rEq_s sw_second sw_second, show decide (Str.ofString "second" = Str.ofString "second") = true by decide +kernel]; cases neg <;> rfl
theorem te_second_to : rEqD neg (.str (Str.ofString "second")) (.str (Str.ofString "to")) O Q = Q (.bl neg) O := by
  rw [rEq_s sw_second sw_to, show decide (Str.ofString "second" = Str.ofString "to") = false by decide +kernel]; cases neg <;> rfl
theorem te_second_both : rEqD neg (.str (Str.ofString "second")) (.str (Str.ofString "both")) O Q = Q (.bl neg) O := by
  rw [rEq_s sw_second sw_both, show decide (Str.ofString "second" = Str.ofString "both") = false by decide +kernel]; cases neg <;> rfl
theorem te_second_one : rEqD neg (.str (Str.ofString "second")) (.str (Str.ofString "one")) O Q = Q (.bl neg) O := by
  rw [rEq_s sw_second sw_one, show decide (Str.ofString "second" = Str.ofString "one") = false by decide +kernel]; cases neg <;> rfl
theorem te_second_mark : rEqD neg (.str (Str.ofString "second")) (.str (Str.ofString "mark")) O Q = Q (.bl neg) O := by
  rw [rEq_s sw_second sw_mark, show decide (Str.ofString "second" = Str.ofString "mark") = false by decide +kernel]; cases neg <;> rfl
theorem te_second_name : rEqD neg (.str (Str.ofString "second")) (.str (Str.ofString "name")) O Q = Q (.bl neg) O := by
  rw [rEq_s sw_second sw_name, show decide (Str.ofString "second" = Str.ofString "name") = false by decide +kernel]; cases neg <;> rfl
theorem te_second_thing : rEqD neg (.str (Str.ofString "second")) (.str (Str.ofString "thing")) O Q = Q (.bl neg) O := by
  rw [rEq_s sw_second sw_thing, show decide (Str.ofString "second" = Str.ofString "thing") = false by decide +kernel]; cases neg <;> rfl
theorem te_second_at : rEqD neg (.str (Str.ofString "second")) (.str (Str.ofString "at")) O Q = Q (.bl neg) O := by
  rw [rEq_s sw_second sw_at, show decide (Str.ofString "second" = Str.ofString "at") = false by decide +kernel]; cases neg <;> rfl
theorem te_mark_take : rEqD neg (.str (Str.ofString "mark")) (.str (Str.ofString "take")) O Q = Q (.bl neg) O := by
  rw [rEq_s sw_mark sw_take, show decide (Str.ofString "mark" = Str.ofString "take") = false by decide +kernel]; cases neg <;> rfl
theorem te_mark_give : rEqD neg (.str (Str.ofString "mark")) (.str (Str.ofString "give")) O Q = Q (.bl neg) O := by
  rw [rEq_s sw_mark sw_give, show decide (Str.ofString "mark" = Str.ofString "give") = false by decide +kernel]; cases neg <;> rfl
theorem te_mark_pair : rEqD neg (.str (Str.ofString "mark")) (.str (Str.ofString "pair")) O Q = Q (.bl neg) O := by
  rw [rEq_s sw_mark sw_pair, show decide (Str.ofString "mark" = Str.ofString "pair") = false by decide +kernel]; cases neg <;> rfl
theorem te_mark_first : rEqD neg (.str (Str.ofString "mark")) (.str (Str.ofString "first")) O Q = Q (.bl neg) O := by
  rw [rEq_s sw_mark sw_first, show decide (Str.ofString "mark" = Str.ofString "first") = false by decide +kernel]; cases neg <;> rfl
theorem te_mark_second : rEqD neg (.str (Str.ofString "mark")) (.str (Str.ofString "second")) O Q = Q (.bl neg) O := by
  rw [rEq_s sw_mark sw_second, show decide (Str.ofString "mark" = Str.ofString "second") = false by decide +kernel]; cases neg <;> rfl
theorem te_mark_to : rEqD neg (.str (Str.ofString "mark")) (.str (Str.ofString "to")) O Q = Q (.bl neg) O := by
  rw [rEq_s sw_mark sw_to, show decide (Str.ofString "mark" = Str.ofString "to") = false by decide +kernel]; cases neg <;> rfl
theorem te_mark_both : rEqD neg (.str (Str.ofString "mark")) (.str (Str.ofString "both")) O Q = Q (.bl neg) O := by
  rw [rEq_s sw_mark sw_both, show decide (Str.ofString "mark" = Str.ofString "both") = false by decide +kernel]; cases neg <;> rfl
theorem te_mark_one : rEqD neg (.str (Str.ofString "mark")) (.str (Str.ofString "one")) O Q = Q (.bl neg) O := by
  rw [rEq_s sw_mark sw_one, show decide (Str.ofString "mark" = Str.ofString "one") = false by decide +kernel]; cases neg <;> rfl
theorem te_mark_mark : rEqD neg (.str (Str.ofString "mark")) (.str (Str.ofString "mark")) O Q = Q (.bl !neg) O := by
  rw [rEq_s sw_mark sw_mark, show decide (Str.ofString "mark" = Str.ofString "mark") = true by decide +kernel]; cases neg <;> rfl
theorem te_mark_name : rEqD neg (.str (Str.ofString "mark")) (.str (Str.ofString "name")) O Q = Q (.bl neg) O := by
  rw [rEq_s sw_mark sw_name, show decide (Str.ofString "mark" = Str.ofString "name") = false by decide +kernel]; cases neg <;> rfl
theorem te_mark_thing : rEqD neg (.str (Str.ofString "mark")) (.str (Str.ofString "thing")) O Q = Q (.bl neg) O := by
  rw [rEq_s sw_mark sw_thing, show decide (Str.ofString "mark" = Str.ofString "thing") = false by decide +kernel]; cases neg <;> rfl
theorem te_mark_at : rEqD neg (.str (Str.ofString "mark")) (.str (Str.ofString "at")) O Q = Q (.bl neg) O := by
  rw [rEq_s sw_mark sw_at, show decide (Str.ofString "mark" = Str.ofString "at") = false by decide +kernel]; cases neg <;> rfl
theorem te_one_take : rEqD neg (.str (Str.ofString "one")) (.str (Str.ofString "take")) O Q = Q (.bl neg) O := by
  rw [rEq_s sw_one sw_take, show decide (Str.ofString "one" = Str.ofString "take") = false by decide +kernel]; cases neg <;> rfl
theorem te_one_give : rEqD neg (.str (Str.ofString "one")) (.str (Str.ofString "give")) O Q = Q (.bl neg) O := by
  rw [rEq_s sw_one sw_give, show decide (Str.ofString "one" = Str.ofString "give") = false by decide +kernel]; cases neg <;> rfl
theorem te_one_pair : rEqD neg (.str (Str.ofString "one")) (.str (Str.ofString "pair")) O Q = Q (.bl neg) O := by
  rw [rEq_s sw_one sw_pair, show decide (Str.ofString "one" = Str.ofString "pair") = false by decide +kernel]; cases neg <;> rfl
theorem te_one_first : rEqD neg (.str (Str.ofString "one")) (.str (Str.ofString "first")) O Q = Q (.bl neg) O := by
  rw [rEq_s sw_one sw_first, show decide (Str.ofString "one" = Str.ofString "first") = false by decide +kernel]; cases neg <;> rfl
theorem te_one_second : rEqD neg (.str (Str.ofString "one")) (.str (Str.ofString "second")) O Q = Q (.bl neg) O := by
  rw [rEq_s sw_one sw_second, show decide (Str.ofString "one" = Str.ofString "second") = false by decide +kernel]; cases neg <;> rfl
theorem te_one_to : rEqD neg (.str (Str.ofString "one")) (.str (Str.ofString "to")) O Q = Q (.bl neg) O := by
  rw [rEq_s sw_one sw_to, show decide (Str.ofString "one" = Str.ofString "to") = false by decide +kernel]; cases neg <;> rfl
theorem te_one_both : rEqD neg (.str (Str.ofString "one")) (.str (Str.ofString "both")) O Q = Q (.bl neg) O := by
  rw [rEq_s sw_one sw_both, show decide (Str.ofString "one" = Str.ofString "both") = false by decide +kernel]; cases neg <;> rfl
theorem te_one_one : rEqD neg (.str (Str.ofString "one")) (.str (Str.ofString "one")) O Q = Q (.bl !neg) O := by
  rw [rEq_s sw_one sw_one, show decide (Str.ofString "one" = Str.ofString "one") = true by decide +kernel]; cases neg <;> rfl
theorem te_one_mark : rEqD neg (.str (Str.ofString "one")) (.str (Str.ofString "mark")) O Q = Q (.bl neg) O := by
  rw [rEq_s sw_one sw_mark, show decide (Str.ofString "one" = Str.ofString "mark") = false by decide +kernel]; cases neg <;> rfl
theorem te_one_name : rEqD neg (.str (Str.ofString "one")) (.str (Str.ofString "name")) O Q = Q (.bl neg) O := by
  rw [rEq_s sw_one sw_name, show decide (Str.ofString "one" = Str.ofString "name") = false by decide +kernel]; cases neg <;> rfl
theorem te_one_thing : rEqD neg (.str (Str.ofString "one")) (.str (Str.ofString "thing")) O Q = Q (.bl neg) O := by
  rw [rEq_s sw_one sw_thing, show decide (Str.ofString "one" = Str.ofString "thing") = false by decide +kernel]; cases neg <;> rfl
theorem te_one_at : rEqD neg (.str (Str.ofString "one")) (.str (Str.ofString "at")) O Q = Q (.bl neg) O := by
  rw [rEq_s sw_one sw_at, show decide (Str.ofString "one" = Str.ofString "at") = false by decide +kernel]; cases neg <;> rfl
theorem te_to_take : rEqD neg (.str (Str.ofString "to")) (.str (Str.ofString "take")) O Q = Q (.bl neg) O := by
  rw [rEq_s sw_to sw_take, show decide (Str.ofString "to" = Str.ofString "take") = false by decide +kernel]; cases neg <;> rfl
theorem te_to_give : rEqD neg (.str (Str.ofString "to")) (.str (Str.ofString "give")) O Q = Q (.bl neg) O := by
  rw [rEq_s sw_to sw_give, show decide (Str.ofString "to" = Str.ofString "give") = false by decide +kernel]; cases neg <;> rfl
theorem te_to_pair : rEqD neg (.str (Str.ofString "to")) (.str (Str.ofString "pair")) O Q = Q (.bl neg) O := by
  rw [rEq_s sw_to sw_pair, show decide (Str.ofString "to" = Str.ofString "pair") = false by decide +kernel]; cases neg <;> rfl
theorem te_to_first : rEqD neg (.str (Str.ofString "to")) (.str (Str.ofString "first")) O Q = Q (.bl neg) O := by
  rw [rEq_s sw_to sw_first, show decide (Str.ofString "to" = Str.ofString "first") = false by decide +kernel]; cases neg <;> rfl
theorem te_to_second : rEqD neg (.str (Str.ofString "to")) (.str (Str.ofString "second")) O Q = Q (.bl neg) O := by
  rw [rEq_s sw_to sw_second, show decide (Str.ofString "to" = Str.ofString "second") = false by decide +kernel]; cases neg <;> rfl
theorem te_to_to : rEqD neg (.str (Str.ofString "to")) (.str (Str.ofString "to")) O Q = Q (.bl !neg) O := by
  rw [rEq_s sw_to sw_to, show decide (Str.ofString "to" = Str.ofString "to") = true by decide +kernel]; cases neg <;> rfl
theorem te_to_both : rEqD neg (.str (Str.ofString "to")) (.str (Str.ofString "both")) O Q = Q (.bl neg) O := by
  rw [rEq_s sw_to sw_both, show decide (Str.ofString "to" = Str.ofString "both") = false by decide +kernel]; cases neg <;> rfl
theorem te_to_one : rEqD neg (.str (Str.ofString "to")) (.str (Str.ofString "one")) O Q = Q (.bl neg) O := by
  rw [rEq_s sw_to sw_one, show decide (Str.ofString "to" = Str.ofString "one") = false by decide +kernel]; cases neg <;> rfl
theorem te_to_mark : rEqD neg (.str (Str.ofString "to")) (.str (Str.ofString "mark")) O Q = Q (.bl neg) O := by
  rw [rEq_s sw_to sw_mark, show decide (Str.ofString "to" = Str.ofString "mark") = false by decide +kernel]; cases neg <;> rfl
theorem te_to_name : rEqD neg (.str (Str.ofString "to")) (.str (Str.ofString "name")) O Q = Q (.bl neg) O := by
  rw [rEq_s sw_to sw_name, show decide (Str.ofString "to" = Str.ofString "name") = false by decide +kernel]; cases neg <;> rfl
theorem te_to_thing : rEqD neg (.str (Str.ofString "to")) (.str (Str.ofString "thing")) O Q = Q (.bl neg) O := by
  rw [rEq_s sw_to sw_thing, show decide (Str.ofString "to" = Str.ofString "thing") = false by decide +kernel]; cases neg <;> rfl
theorem te_to_at : rEqD neg (.str (Str.ofString "to")) (.str (Str.ofString "at")) O Q = Q (.bl neg) O := by
  rw [rEq_s sw_to sw_at, show decide (Str.ofString "to" = Str.ofString "at") = false by decide +kernel]; cases neg <;> rfl
theorem te_both_take : rEqD neg (.str (Str.ofString "both")) (.str (Str.ofString "take")) O Q = Q (.bl neg) O := by
  rw [rEq_s sw_both sw_take, show decide (Str.ofString "both" = Str.ofString "take") = false by decide +kernel]; cases neg <;> rfl
theorem te_both_give : rEqD neg (.str (Str.ofString "both")) (.str (Str.ofString "give")) O Q = Q (.bl neg) O := by
  rw [rEq_s sw_both sw_give, show decide (Str.ofString "both" = Str.ofString "give") = false by decide +kernel]; cases neg <;> rfl
theorem te_both_pair : rEqD neg (.str (Str.ofString "both")) (.str (Str.ofString "pair")) O Q = Q (.bl neg) O := by
  rw [rEq_s sw_both sw_pair, show decide (Str.ofString "both" = Str.ofString "pair") = false by decide +kernel]; cases neg <;> rfl
theorem te_both_first : rEqD neg (.str (Str.ofString "both")) (.str (Str.ofString "first")) O Q = Q (.bl neg) O := by
  rw [rEq_s sw_both sw_first, show decide (Str.ofString "both" = Str.ofString "first") = false by decide +kernel]; cases neg <;> rfl
theorem te_both_second : rEqD neg (.str (Str.ofString "both")) (.str (Str.ofString "second")) O Q = Q (.bl neg) O := by
  rw [rEq_s sw_both sw_second, show decide (Str.ofString "both" = Str.ofString "second") = false by decide +kernel]; cases neg <;> rfl
theorem te_both_to : rEqD neg (.str (Str.ofString "both")) (.str (Str.ofString "to")) O Q = Q (.bl neg) O := by
  rw [rEq_s sw_both sw_to, show decide (Str.ofString "both" = Str.ofString "to") = false by decide +kernel]; cases neg <;> rfl
theorem te_both_both : rEqD neg (.str (Str.ofString "both")) (.str (Str.ofString "both")) O Q = Q (.bl !neg) O := by
  rw [rEq_s sw_both sw_both, show decide (Str.ofString "both" = Str.ofString "both") = true by decide +kernel]; cases neg <;> rfl
theorem te_both_one : rEqD neg (.str (Str.ofString "both")) (.str (Str.ofString "one")) O Q = Q (.bl neg) O := by
  rw [rEq_s sw_both sw_one, show decide (Str.ofString "both" = Str.ofString "one") = false by decide +kernel]; cases neg <;> rfl
theorem te_both_mark : rEqD neg (.str (Str.ofString "both")) (.str (Str.ofString "mark")) O Q = Q (.bl neg) O := by
  rw [rEq_s sw_both sw_mark, show decide (Str.ofString "both" = Str.ofString "mark") = false by decide +kernel]; cases neg <;> rfl
theorem te_both_name : rEqD neg (.str (Str.ofString "both")) (.str (Str.ofString "name")) O Q = Q (.bl neg) O := by
  rw [rEq_s sw_both sw_name, show decide (Str.ofString "both" = Str.ofString "name") = false by decide +kernel]; cases neg <;> rfl
theorem te_both_thing : rEqD neg (.str (Str.ofString "both")) (.str (Str.ofString "thing")) O Q = Q (.bl neg) O := by
  rw [rEq_s sw_both sw_thing, show decide (Str.ofString "both" = Str.ofString "thing") = false by decide +kernel]; cases neg <;> rfl
theorem te_both_at : rEqD neg (.str (Str.ofString "both")) (.str (Str.ofString "at")) O Q = Q (.bl neg) O := by
  rw [rEq_s sw_both sw_at, show decide (Str.ofString "both" = Str.ofString "at") = false by decide +kernel]; cases neg <;> rfl
theorem te_at_take : rEqD neg (.str (Str.ofString "at")) (.str (Str.ofString "take")) O Q = Q (.bl neg) O := by
  rw [rEq_s sw_at sw_take, show decide (Str.ofString "at" = Str.ofString "take") = false by decide +kernel]; cases neg <;> rfl
theorem te_at_give : rEqD neg (.str (Str.ofString "at")) (.str (Str.ofString "give")) O Q = Q (.bl neg) O := by
  rw [rEq_s sw_at sw_give, show decide (Str.ofString "at" = Str.ofString "give") = false by decide +kernel]; cases neg <;> rfl
theorem te_at_pair : rEqD neg (.str (Str.ofString "at")) (.str (Str.ofString "pair")) O Q = Q (.bl neg) O := by
  rw [rEq_s sw_at sw_pair, show decide (Str.ofString "at" = Str.ofString "pair") = false by decide +kernel]; cases neg <;> rfl
theorem te_at_first : rEqD neg (.str (Str.ofString "at")) (.str (Str.ofString "first")) O Q = Q (.bl neg) O := by
  rw [rEq_s sw_at sw_first, show decide (Str.ofString "at" = Str.ofString "first") = false by decide +kernel]; cases neg <;> rfl
theorem te_at_second : rEqD neg (.str (Str.ofString "at")) (.str (Str.ofString "second")) O Q = Q (.bl neg) O := by
  rw [rEq_s sw_at sw_second, show decide (Str.ofString "at" = Str.ofString "second") = false by decide +kernel]; cases neg <;> rfl
theorem te_at_to : rEqD neg (.str (Str.ofString "at")) (.str (Str.ofString "to")) O Q = Q (.bl neg) O := by
  rw [rEq_s sw_at sw_to, show decide (Str.ofString "at" = Str.ofString "to") = false by decide +kernel]; cases neg <;> rfl
theorem te_at_both : rEqD neg (.str (Str.ofString "at")) (.str (Str.ofString "both")) O Q = Q (.bl neg) O := by
  rw [rEq_s sw_at sw_both, show decide (Str.ofString "at" = Str.ofString "both") = false by decide +kernel]; cases neg <;> rfl
theorem te_at_one : rEqD neg (.str (Str.ofString "at")) (.str (Str.ofString "one")) O Q = Q (.bl neg) O := by
  rw [rEq_s sw_at sw_one, show decide (Str.ofString "at" = Str.ofString "one") = false by decide +kernel]; cases neg <;> rfl
theorem te_at_mark : rEqD neg (.str (Str.ofString "at")) (.str (Str.ofString "mark")) O Q = Q (.bl neg) O := by
  rw [rEq_s sw_at sw_mark, show decide (Str.ofString "at" = Str.ofString "mark") = false by decide +kernel]; cases neg <;> rfl
theorem te_at_name : rEqD neg (.str (Str.ofString "at")) (.str (Str.ofString "name")) O Q = Q (.bl neg) O := by
  rw [rEq_s sw_at sw_name, show decide (Str.ofString "at" = Str.ofString "name") = false by decide +kernel]; cases neg <;> rfl
theorem te_at_thing : rEqD neg (.str (Str.ofString "at")) (.str (Str.ofString "thing")) O Q = Q (.bl neg) O := by
  rw [rEq_s sw_at sw_thing, show decide (Str.ofString "at" = Str.ofString "thing") = false by decide +kernel]; cases neg <;> rfl
theorem te_at_at : rEqD neg (.str (Str.ofString "at")) (.str (Str.ofString "at")) O Q = Q (.bl !neg) O := by
  rw [rEq_s sw_at sw_at, show decide (Str.ofString "at" = Str.ofString "at") = true by decide +kernel]; cases neg <;> rfl
theorem ti4_name : rInD neg (.str (Str.ofString "name")) (.tup [.str (Str.ofString "give"), .str (Str.ofString "pair"), .str (Str.ofString "first"), .str (Str.ofString "second")]) O Q = Q (.bl neg) O := by
  have e := rIn_ws (neg := neg) (O := O) (Q := Q) (z := Str.ofString "name") (ts := [Str.ofString "give", Str.ofString "pair", Str.ofString "first", Str.ofString "second"]) (by decide +kernel) (by decide +kernel)
  rw [show decide (Str.ofString "name" ∈ ([Str.ofString "give", Str.ofString "pair", Str.ofString "first", Str.ofString "second"] : List Str)) = false by decide +kernel] at e
  exact e.trans (by cases neg <;> rfl)
theorem ti4_thing : rInD neg (.str (Str.ofString "thing")) (.tup [.str (Str.ofString "give"), .str (Str.ofString "pair"), .str (Str.ofString "first"), .str (Str.ofString "second")]) O Q = Q (.bl neg) O := by
  have e := rIn_ws (neg := neg) (O := O) (Q := Q) (z := Str.ofString "thing") (ts := [Str.ofString "give", Str.ofString "pair", Str.ofString "first", Str.ofString "second"]) (by decide +kernel) (by decide +kernel)
  rw [show decide (Str.ofString "thing" ∈ ([Str.ofString "give", Str.ofString "pair", Str.ofString "first", Str.ofString "second"] : List Str)) = false by decide +kernel] at e
  exact e.trans (by cases neg <;> rfl)
theorem ti4_take : rInD neg (.str (Str.ofString "take")) (.tup [.str (Str.ofString "give"), .str (Str.ofString "pair"), .str (Str.ofString "first"), .str (Str.ofString "second")]) O Q = Q (.bl neg) O := by
  have e := rIn_ws (neg := neg) (O := O) (Q := Q) (z := Str.ofString "take") (ts := [Str.ofString "give", Str.ofString "pair", Str.ofString "first", Str.ofString "second"]) (by decide +kernel) (by decide +kernel)
  rw [show decide (Str.ofString "take" ∈ ([Str.ofString "give", Str.ofString "pair", Str.ofString "first", Str.ofString "second"] : List Str)) = false by decide +kernel] at e
  exact e.trans (by cases neg <;> rfl)
theorem ti4_give : rInD neg (.str (Str.ofString "give")) (.tup [.str (Str.ofString "give"), .str (Str.ofString "pair"), .str (Str.ofString "first"), .str (Str.ofString "second")]) O Q = Q (.bl !neg) O := by
  have e := rIn_ws (neg := neg) (O := O) (Q := Q) (z := Str.ofString "give") (ts := [Str.ofString "give", Str.ofString "pair", Str.ofString "first", Str.ofString "second"]) (by decide +kernel) (by decide +kernel)
  rw [show decide (Str.ofString "give" ∈ ([Str.ofString "give", Str.ofString "pair", Str.ofString "first", Str.ofString "second"] : List Str)) = true by decide +kernel] at e
  exact e.trans (by cases neg <;> rfl)
theorem ti4_pair : rInD neg (.str (Str.ofString "pair")) (.tup [.str (Str.ofString "give"), .str (Str.ofString "pair"), .str (Str.ofString "first"), .str (Str.ofString "second")]) O Q = Q (.bl !neg) O := by
  have e := rIn_ws (neg := neg) (O := O) (Q := Q) (z := Str.ofString "pair") (ts := [Str.ofString "give", Str.ofString "pair", Str.ofString "first", Str.ofString "second"]) (by decide +kernel) (by decide +kernel)
  rw [show decide (Str.ofString "pair" ∈ ([Str.ofString "give", Str.ofString "pair", Str.ofString "first", Str.ofString "second"] : List Str)) = true by decide +kernel] at e
  exact e.trans (by cases neg <;> rfl)
theorem ti4_first : rInD neg (.str (Str.ofString "first")) (.tup [.str (Str.ofString "give"), .str (Str.ofString "pair"), .str (Str.ofString "first"), .str (Str.ofString "second")]) O Q = Q (.bl !neg) O := by
  have e := rIn_ws (neg := neg) (O := O) (Q := Q) (z := Str.ofString "first") (ts := [Str.ofString "give", Str.ofString "pair", Str.ofString "first", Str.ofString "second"]) (by decide +kernel) (by decide +kernel)
  rw [show decide (Str.ofString "first" ∈ ([Str.ofString "give", Str.ofString "pair", Str.ofString "first", Str.ofString "second"] : List Str)) = true by decide +kernel] at e
  exact e.trans (by cases neg <;> rfl)
theorem ti4_second : rInD neg (.str (Str.ofString "second")) (.tup [.str (Str.ofString "give"), .str (Str.ofString "pair"), .str (Str.ofString "first"), .str (Str.ofString "second")]) O Q = Q (.bl !neg) O := by
  have e := rIn_ws (neg := neg) (O := O) (Q := Q) (z := Str.ofString "second") (ts := [Str.ofString "give", Str.ofString "pair", Str.ofString "first", Str.ofString "second"]) (by decide +kernel) (by decide +kernel)
  rw [show decide (Str.ofString "second" ∈ ([Str.ofString "give", Str.ofString "pair", Str.ofString "first", Str.ofString "second"] : List Str)) = true by decide +kernel] at e
  exact e.trans (by cases neg <;> rfl)
theorem ti2_name : rInD neg (.str (Str.ofString "name")) (.tup [.str (Str.ofString "first"), .str (Str.ofString "second")]) O Q = Q (.bl neg) O := by
  have e := rIn_ws (neg := neg) (O := O) (Q := Q) (z := Str.ofString "name") (ts := [Str.ofString "first", Str.ofString "second"]) (by decide +kernel) (by decide +kernel)
  rw [show decide (Str.ofString "name" ∈ ([Str.ofString "first", Str.ofString "second"] : List Str)) = false by decide +kernel] at e
  exact e.trans (by cases neg <;> rfl)
theorem ti2_thing : rInD neg (.str (Str.ofString "thing")) (.tup [.str (Str.ofString "first"), .str (Str.ofString "second")]) O Q = Q (.bl neg) O := by
  have e := rIn_ws (neg := neg) (O := O) (Q := Q) (z := Str.ofString "thing") (ts := [Str.ofString "first", Str.ofString "second"]) (by decide +kernel) (by decide +kernel)
  rw [show decide (Str.ofString "thing" ∈ ([Str.ofString "first", Str.ofString "second"] : List Str)) = false by decide +kernel] at e
  exact e.trans (by cases neg <;> rfl)
theorem ti2_take : rInD neg (.str (Str.ofString "take")) (.tup [.str (Str.ofString "first"), .str (Str.ofString "second")]) O Q = Q (.bl neg) O := by
  have e := rIn_ws (neg := neg) (O := O) (Q := Q) (z := Str.ofString "take") (ts := [Str.ofString "first", Str.ofString "second"]) (by decide +kernel) (by decide +kernel)
  rw [show decide (Str.ofString "take" ∈ ([Str.ofString "first", Str.ofString "second"] : List Str)) = false by decide +kernel] at e
  exact e.trans (by cases neg <;> rfl)
theorem ti2_give : rInD neg (.str (Str.ofString "give")) (.tup [.str (Str.ofString "first"), .str (Str.ofString "second")]) O Q = Q (.bl neg) O := by
  have e := rIn_ws (neg := neg) (O := O) (Q := Q) (z := Str.ofString "give") (ts := [Str.ofString "first", Str.ofString "second"]) (by decide +kernel) (by decide +kernel)
  rw [show decide (Str.ofString "give" ∈ ([Str.ofString "first", Str.ofString "second"] : List Str)) = false by decide +kernel] at e
  exact e.trans (by cases neg <;> rfl)
theorem ti2_pair : rInD neg (.str (Str.ofString "pair")) (.tup [.str (Str.ofString "first"), .str (Str.ofString "second")]) O Q = Q (.bl neg) O := by
  have e := rIn_ws (neg := neg) (O := O) (Q := Q) (z := Str.ofString "pair") (ts := [Str.ofString "first", Str.ofString "second"]) (by decide +kernel) (by decide +kernel)
  rw [show decide (Str.ofString "pair" ∈ ([Str.ofString "first", Str.ofString "second"] : List Str)) = false by decide +kernel] at e
  exact e.trans (by cases neg <;> rfl)
theorem ti2_first : rInD neg (.str (Str.ofString "first")) (.tup [.str (Str.ofString "first"), .str (Str.ofString "second")]) O Q = Q (.bl !neg) O := by
  have e := rIn_ws (neg := neg) (O := O) (Q := Q) (z := Str.ofString "first") (ts := [Str.ofString "first", Str.ofString "second"]) (by decide +kernel) (by decide +kernel)
  rw [show decide (Str.ofString "first" ∈ ([Str.ofString "first", Str.ofString "second"] : List Str)) = true by decide +kernel] at e
  exact e.trans (by cases neg <;> rfl)
theorem ti2_second : rInD neg (.str (Str.ofString "second")) (.tup [.str (Str.ofString "first"), .str (Str.ofString "second")]) O Q = Q (.bl !neg) O := by
  have e := rIn_ws (neg := neg) (O := O) (Q := Q) (z := Str.ofString "second") (ts := [Str.ofString "first", Str.ofString "second"]) (by decide +kernel) (by decide +kernel)
  rw [show decide (Str.ofString "second" ∈ ([Str.ofString "first", Str.ofString "second"] : List Str)) = true by decide +kernel] at e
  exact e.trans (by cases neg <;> rfl)
end
/-! ### small sizes -/
theorem szT_0 : ((0 : Nat) ≤ sizeLine) = True := eq_true (sz_small (by decide))
theorem szT_1 : ((1 : Nat) ≤ sizeLine) = True := eq_true (sz_small (by decide))
theorem szT_2 : ((2 : Nat) ≤ sizeLine) = True := eq_true (sz_small (by decide))
theorem szT_3 : ((3 : Nat) ≤ sizeLine) = True := eq_true (sz_small (by decide))
theorem szT_4 : ((4 : Nat) ≤ sizeLine) = True := eq_true (sz_small (by decide))
theorem szT_5 : ((5 : Nat) ≤ sizeLine) = True := eq_true (sz_small (by decide))
theorem szT_6 : ((6 : Nat) ≤ sizeLine) = True := eq_true (sz_small (by decide))
theorem szT_7 : ((7 : Nat) ≤ sizeLine) = True := eq_true (sz_small (by decide))
theorem szT_8 : ((8 : Nat) ≤ sizeLine) = True := eq_true (sz_small (by decide))
theorem szT_9 : ((9 : Nat) ≤ sizeLine) = True := eq_true (sz_small (by decide))
theorem szT_10 : ((10 : Nat) ≤ sizeLine) = True := eq_true (sz_small (by decide))
theorem szT_11 : ((11 : Nat) ≤ sizeLine) = True := eq_true (sz_small (by decide))
theorem szT_12 : ((12 : Nat) ≤ sizeLine) = True := eq_true (sz_small (by decide))
/-! ### programs -/
inductive Pg where
  | nm (x : Str) | thing | take (x : Str) (k : Kd) (b : Pg) | give (f a : Pg) | pair (a b : Pg) | first (p : Pg) | second (p : Pg)
  deriving DecidableEq, Inhabited
def dP : Pg → D
  | .nm x => .tup [.str "name", .str x]
  | .thing => .tup [.str "thing"]
  | .take x k b => .tup [.str "take", .str x, dK k, dP b]
  | .give f a => .tup [.str "give", dP f, dP a]
  | .pair a b => .tup [.str "pair", dP a, dP b]
  | .first p => .tup [.str "first", dP p]
  | .second p => .tup [.str "second", dP p]
def Pg.ins : Pg → List Pg
  | .nm _ => []
  | .thing => []
  | .take _ _ b => [b]
  | .give f a => [f, a]
  | .pair a b => [a, b]
  | .first p => [p]
  | .second p => [p]
def Pg.hgt : Pg → Nat
  | .nm _ => 0
  | .thing => 0
  | .take _ _ b => b.hgt + 1
  | .give f a => max f.hgt a.hgt + 1
  | .pair a b => max a.hgt b.hgt + 1
  | .first p => p.hgt + 1
  | .second p => p.hgt + 1
def Pg.isTake : Pg → Bool
  | .take .. => true
  | _ => false
def Pg.isPair : Pg → Bool
  | .pair .. => true
  | _ => false
def Pg.can : Pg → Bool
  | .give f _ => f.isTake
  | .first p => p.isPair
  | .second p => p.isPair
  | _ => false
theorem ins_cases (p : Pg) : p.ins = [] ∨ (∃ x, p.ins = [x]) ∨ ∃ x y, p.ins = [x, y] := by
  cases p <;> simp [Pg.ins]
theorem ins_hgt {p q : Pg} (h : q ∈ p.ins) : q.hgt < p.hgt := by
  cases p <;> simp only [Pg.ins, List.mem_cons, List.not_mem_nil, or_false] at h
  · subst h; simp [Pg.hgt]
  · rcases h with rfl | rfl <;> simp only [Pg.hgt] <;> omega
  · rcases h with rfl | rfl <;> simp only [Pg.hgt] <;> omega
  · subst h; simp [Pg.hgt]
  · subst h; simp [Pg.hgt]
theorem sz_21 {n : Nat} (h : n ≤ 4194304) : n ≤ sizeLine := Nat.le_trans h (by decide)
abbrev dI (q : List Int) : D := .lst (q.map .int)
theorem enum0 : enumD [] = [] := rfl
theorem enum1 (x : D) : enumD [x] = [.tup [.int 0, x]] := rfl
theorem enum2 (x y : D) : enumD [x, y] = [.tup [.int 0, x], .tup [.int 1, y]] := rfl
/-! ### rows of names -/
/-- what a name is by a row: the last one counts -/
def envOf (kn : List (Str × Kd)) (x : Str) : Option Kd := (kn.reverse.find? fun q => decide (q.1 = x)).map (·.2)
theorem envOf_snoc (kn : List (Str × Kd)) (y : Str) (k : Kd) (x : Str) : envOf (kn ++ [(y, k)]) x = if y = x then some k else envOf kn x := by
  unfold envOf
  rw [List.reverse_append, List.reverse_singleton, List.singleton_append, List.find?_cons]
  by_cases h : y = x
  · simp [h]
  · simp [h]
/-- the kind of a program by what its names are -/
def hasK : (Str → Option Kd) → Pg → Kd → Prop
  | e, .nm x, k => e x = some k
  | _, .thing, k => k = .one
  | e, .take x a b, k => ∃ r, k = .to a r ∧ hasK (fun y => if x = y then some a else e y) b r
  | e, .give f a, k => ∃ c, hasK e f (.to c k) ∧ hasK e a c
  | e, .pair a b, k => ∃ c d, k = .both c d ∧ hasK e a c ∧ hasK e b d
  | e, .first p, k => ∃ d, hasK e p (.both k d)
  | e, .second p, k => ∃ c, hasK e p (.both c k)
end Kf
/-! Kdc: tables, rows of names. -/
namespace Kf
open PySem PySem.Spec L2
open PyProof.Rows hiding St
theorem valD_pos {p : Key × D} {r : List (Key × D)} {k : Key} (e : p.1 = k) : valD (p :: r) k = some p.2 := by simp [valD, List.find?_cons, e]
theorem valD_neg {p : Key × D} {r : List (Key × D)} {k : Key} (e : ¬ p.1 = k) : valD (p :: r) k = valD r k := by simp [valD, List.find?_cons, e]
theorem valD_any (k : Key) : ∀ kvs : List (Key × D), (kvs.any fun kv => decide (kv.1 = k)) = (valD kvs k).isSome
  | [] => rfl
  | p :: r => by
    rw [List.any_cons]
    by_cases e : p.1 = k
    · simp only [valD_pos e, decide_eq_true e, Bool.true_or, Option.isSome_some]
    · rw [valD_neg e, decide_eq_false e, Bool.false_or]; exact valD_any k r
theorem valD_map (k j : Key) (y : D) : ∀ kvs : List (Key × D), valD (kvs.map fun kv => if kv.1 = k then (kv.1, y) else kv) j = (valD kvs j).map fun x => if j = k then y else x
  | [] => rfl
  | p :: r => by
    have ih := valD_map k j y r
    rw [List.map_cons]
    by_cases h : p.1 = k
    · rw [if_pos h]
      by_cases e : p.1 = j
      · rw [valD_pos (p := (p.1, y)) e, valD_pos e, Option.map_some, if_pos (e.symm.trans h)]
      · rw [valD_neg (p := (p.1, y)) e, valD_neg e, ih]
    · rw [if_neg h]
      by_cases e : p.1 = j
      · rw [valD_pos (p := p) e, valD_pos e, Option.map_some, if_neg (fun z => h (e.trans z))]
      · rw [valD_neg (p := p) e, valD_neg e, ih]
theorem valD_snoc (k j : Key) (y : D) : ∀ kvs : List (Key × D), valD kvs k = none → valD (kvs ++ [(k, y)]) j = if j = k then some y else valD kvs j
  | [], _ => by
    by_cases e : k = j
    · rw [if_pos e.symm]; exact valD_pos (p := (k, y)) e
    · rw [if_neg (fun z => e z.symm)]; exact valD_neg (p := (k, y)) e
  | p :: r, hn => by
    rw [List.cons_append]
    have hk : ¬ p.1 = k := fun z => by rw [valD_pos z] at hn; cases hn
    rw [valD_neg hk] at hn
    have ih := valD_snoc k j y r hn
    by_cases e : p.1 = j
    · rw [valD_pos e, valD_pos e, if_neg (fun z => hk (e.trans z))]
    · rw [valD_neg e, valD_neg e, ih]
theorem valD_put (kvs : List (Key × D)) (k j : Key) (d : D) : valD (putD kvs k d) j = if j = k then some d else valD kvs j := by
  unfold putD
  rw [valD_any]
  cases h : valD kvs k with
  | none => rw [if_neg (by simp)]; exact valD_snoc k j d kvs h
  | some x =>
    rw [if_pos (by rfl), valD_map]
    by_cases e : j = k
    · subst e; rw [if_pos rfl, h]; simp
    · rw [if_neg e]; simp [e]
theorem keys_put (kvs : List (Key × D)) (k : Key) (d : D) : (putD kvs k d).map (·.1) = if (valD kvs k).isSome then kvs.map (·.1) else kvs.map (·.1) ++ [k] := by
  unfold putD
  rw [valD_any]
  split
  · rw [List.map_map]
    refine List.map_congr_left fun p _ => ?_
    show (if p.1 = k then (p.1, d) else p).1 = p.1
    split <;> rfl
  · rw [List.map_append]; rfl
theorem valD_mem {kvs : List (Key × D)} {k : Key} : k ∈ kvs.map (·.1) ↔ (valD kvs k).isSome = true := by
  rw [← valD_any, List.any_eq_true, List.mem_map]
  constructor
  · rintro ⟨p, h1, h2⟩; exact ⟨p, h1, decide_eq_true h2⟩
  · rintro ⟨p, h1, h2⟩; exact ⟨p, h1, of_decide_eq_true h2⟩
theorem nodup_le {α : Type} [DecidableEq α] : ∀ {ts us : List α}, ts.Nodup → (∀ t ∈ ts, t ∈ us) → ts.length ≤ us.length
  | [], _, _, _ => Nat.zero_le _
  | t :: ts, us, hn, h => by
    have h1 := List.nodup_cons.mp hn
    have ht := h t List.mem_cons_self
    have ih := nodup_le (us := us.erase t) h1.2 fun u hu => by
      have hne : u ≠ t := fun q => h1.1 (q ▸ hu)
      exact (List.mem_erase_of_ne hne).mpr (h u (List.mem_cons_of_mem _ hu))
    rw [List.length_erase_of_mem ht] at ih
    have := List.length_pos_of_mem ht
    rw [List.length_cons]; omega
/-! ### rows -/
abbrev kv (q : Str × Kd) : D := .tup [.str q.1, dK q.2]
def ANames : List Str := ["pa", "fa", "pb", "fb", "x0", "x1", "x2", "y", "z", "x7"]
def XNames : List Str := ["x0", "x1", "x2", "y", "z", "x7"]
abbrev AB : List Str := ["a", "b"]
theorem ab_ok : ∀ t ∈ AB, PyData.strOk t = true := by decide +kernel
theorem xnames : ∀ x ∈ XNames, x ∈ ANames ∧ x ≠ "pa" ∧ x ≠ "pb" ∧ x ≠ "fa" ∧ x ≠ "fb" := by decide +kernel
structure RowOk (kn : List (Str × Kd)) : Prop where
  nm : ∀ q ∈ kn, q.1 ∈ ANames ∧ q.2.over AB ∧ q.2.leaves ≤ 3
  pa : envOf kn "pa" = some (.mk "a")
  pb : envOf kn "pb" = some (.mk "b")
  fa : envOf kn "fa" = some (.to (.mk "a") (.mk "a"))
  fb : envOf kn "fb" = some (.to (.mk "b") (.mk "b"))
theorem RowOk.snoc {kn : List (Str × Kd)} (h : RowOk kn) {x : Str} {k : Kd} (hx : x ∈ XNames) (ho : k.over AB) (hl : k.leaves ≤ 3) : RowOk (kn ++ [(x, k)]) := by
  obtain ⟨h0, h1, h2, h3, h4⟩ := xnames x hx
  refine ⟨fun q hq => ?_, ?_, ?_, ?_, ?_⟩
  · rcases List.mem_append.mp hq with hq | hq
    · exact h.nm q hq
    · rw [List.mem_singleton.mp hq]; exact ⟨h0, ho, hl⟩
  · rw [envOf_snoc, if_neg h1]; exact h.pa
  · rw [envOf_snoc, if_neg h2]; exact h.pb
  · rw [envOf_snoc, if_neg h3]; exact h.fa
  · rw [envOf_snoc, if_neg h4]; exact h.fb
theorem envOf_mem {kn : List (Str × Kd)} {x : Str} {k : Kd} (h : envOf kn x = some k) : (x, k) ∈ kn := by
  unfold envOf at h
  obtain ⟨q, h1, h2⟩ := Option.map_eq_some_iff.mp h
  have h3 := List.find?_some h1
  have h4 := List.mem_of_find?_eq_some h1
  have e : q.1 = x := of_decide_eq_true h3
  rw [← e, ← h2]
  exact List.mem_reverse.mp h4
theorem envOf_ext {kn : List (Str × Kd)} (x : Str) (k : Kd) : envOf (kn ++ [(x, k)]) = fun y => if x = y then some k else envOf kn y := by
  funext y; exact envOf_snoc kn x k y
/-- what the names' table holds behind a row's first ones -/
structure DInv (pre : List (Str × Kd)) (kvs : List (Key × D)) (ts : List Str) : Prop where
  ks : kvs.map (·.1) = ts.map Sum.inr
  nd : ts.Nodup
  an : ∀ t ∈ ts, t ∈ ANames
  vl : ∀ x : Str, valD kvs (.inr x) = (envOf pre x).map dK
theorem DInv.nil : DInv [] [] [] := ⟨rfl, List.nodup_nil, fun _ h => (nomatch h), fun _ => rfl⟩
theorem DInv.len {pre : List (Str × Kd)} {kvs : List (Key × D)} {ts : List Str} (h : DInv pre kvs ts) : ts.length ≤ 10 ∧ kvs.length ≤ 10 := by
  have h1 : ts.length ≤ 10 := nodup_le (us := ANames) h.nd h.an
  have h2 : kvs.length = ts.length := by have := congrArg List.length h.ks; simpa using this
  omega
theorem DInv.put {pre : List (Str × Kd)} {kvs : List (Key × D)} {ts : List Str} (h : DInv pre kvs ts) {x : Str} {k : Kd} (hx : x ∈ ANames) : ∃ ts', DInv (pre ++ [(x, k)]) (putD kvs (.inr x) (dK k)) ts' := by
  have hv : ∀ y : Str, valD (putD kvs (.inr x) (dK k)) (.inr y) = (envOf (pre ++ [(x, k)]) y).map dK := fun y => by
    rw [valD_put, envOf_snoc]
    by_cases e : x = y
    · subst e; simp
    · rw [if_neg (fun q => e (Sum.inr.inj q).symm), if_neg e, h.vl]
  have hk := keys_put kvs (.inr x) (dK k)
  by_cases c : (valD kvs (.inr x)).isSome = true
  · rw [if_pos c] at hk
    exact ⟨ts, hk.trans h.ks, h.nd, h.an, hv⟩
  · rw [if_neg c] at hk
    refine ⟨ts ++ [x], by rw [hk, h.ks, List.map_append]; rfl, ?_, ?_, hv⟩
    · refine List.nodup_append.mpr ⟨h.nd, by simp, fun a ha b hb e => c ?_⟩
      rw [List.mem_singleton.mp hb] at e
      subst e
      exact valD_mem.mp (by rw [h.ks]; exact List.mem_map.mpr ⟨a, ha, rfl⟩)
    · intro t ht
      rcases List.mem_append.mp ht with ht | ht
      · exact h.an t ht
      · rw [List.mem_singleton.mp ht]; exact hx
theorem DInv.has {pre : List (Str × Kd)} {kvs : List (Key × D)} {ts : List Str} (h : DInv pre kvs ts) {x : Str} (hx : x ∈ ts) : ∃ k, envOf pre x = some k := by
  have h1 := valD_mem.mp (show Sum.inr x ∈ kvs.map (·.1) by rw [h.ks]; exact List.mem_map.mpr ⟨x, hx, rfl⟩)
  rw [h.vl] at h1
  cases e : envOf pre x with
  | none => rw [e] at h1; simp at h1
  | some k => exact ⟨k, rfl⟩
end Kf
/-! Kdw: as Kdb, to 512: programs with names told by how many takes stand between; steps. -/
namespace Kf
open PySem PySem.Spec L2
open PyProof.Rows hiding St
inductive Db where
  | at (i : Nat) | nm (x : Str) | thing | take (k : Kd) (b : Db) | give (f a : Db) | pair (a b : Db) | first (p : Db) | second (p : Db)
  deriving DecidableEq, Inhabited
/-- x and a number -/
def xn (k : Nat) : Str := Str.ofString "x" ++ Str.ofString (toString (k : Int))
/-- a name that is none of these -/
def Fr (x : Str) : Prop := ∀ k, k < 512 → xn k ≠ x
/-- the nearest one called x, the nearest first -/
def ri : List Str → Str → Option Nat
  | [], _ => none
  | y :: r, x => if y = x then some 0 else (ri r x).map (· + 1)
def bare : Pg → List Str → Db
  | .nm x, c => match ri c x with
    | some i => .at i
    | none => .nm x
  | .thing, _ => .thing
  | .take x k b, c => .take k (bare b (x :: c))
  | .give f a, c => .give (bare f c) (bare a c)
  | .pair a b, c => .pair (bare a c) (bare b c)
  | .first p, c => .first (bare p c)
  | .second p, c => .second (bare p c)
def moved : Db → Nat → Nat → Db
  | .at i, f, n => .at (i + if f ≤ i then n else 0)
  | .nm x, _, _ => .nm x
  | .thing, _, _ => .thing
  | .take k b, f, n => .take k (moved b (f + 1) n)
  | .give g a, f, n => .give (moved g f n) (moved a f n)
  | .pair a b, f, n => .pair (moved a f n) (moved b f n)
  | .first p, f, n => .first (moved p f n)
  | .second p, f, n => .second (moved p f n)
def put : Db → Nat → Db → Db
  | .at i, t, g => if i = t then moved g 0 t else .at (i - if t < i then 1 else 0)
  | .nm x, _, _ => .nm x
  | .thing, _, _ => .thing
  | .take k b, t, g => .take k (put b (t + 1) g)
  | .give f a, t, g => .give (put f t g) (put a t g)
  | .pair a b, t, g => .pair (put a t g) (put b t g)
  | .first p, t, g => .first (put p t g)
  | .second p, t, g => .second (put p t g)
def Wf : Db → Nat → Prop
  | .at i, m => i < m
  | .nm x, _ => Fr x
  | .thing, _ => True
  | .take _ b, m => Wf b (m + 1)
  | .give f a, m => Wf f m ∧ Wf a m
  | .pair a b, m => Wf a m ∧ Wf b m
  | .first p, m => Wf p m
  | .second p, m => Wf p m
/-! ### where names stand -/
def xr : Nat → List Str
  | 0 => []
  | m + 1 => xn m :: xr m
def mid (m : Nat) : Nat → List Str
  | 0 => xr m
  | j + 1 => xn (m + j + 1) :: mid m j
def own (m j : Nat) : Nat → List Str
  | 0 => mid m j
  | e + 1 => xn (m + e) :: own m j e
/-! ### dressed and bare again -/
/-! ### steps -/
def partAt : Pg → List Int → Option Pg
  | p, [] => some p
  | .take _ _ b, i :: pl => if i = 0 then partAt b pl else none
  | .give f a, i :: pl => if i = 0 then partAt f pl else if i = 1 then partAt a pl else none
  | .pair f a, i :: pl => if i = 0 then partAt f pl else if i = 1 then partAt a pl else none
  | .first p, i :: pl => if i = 0 then partAt p pl else none
  | .second p, i :: pl => if i = 0 then partAt p pl else none
  | _, _ :: _ => none
def withPart : Pg → List Int → Pg → Pg
  | _, [], q => q
  | .take x k b, _ :: pl, q => .take x k (withPart b pl q)
  | .give f a, i :: pl, q => if i = 0 then .give (withPart f pl q) a else .give f (withPart a pl q)
  | .pair f a, i :: pl, q => if i = 0 then .pair (withPart f pl q) a else .pair f (withPart a pl q)
  | .first p, _ :: pl, q => .first (withPart p pl q)
  | .second p, _ :: pl, q => .second (withPart p pl q)
  | p, _ :: _, _ => p
/-! ### places -/
/-! ### well formed -/
end Kf
/-! Kls: lists of lists of numbers, owned ones too. -/
namespace Kf
open PySem PySem.Spec L2
open PyProof.Rows hiding St
theorem isPys_ints (q : List Int) : isPys (q.map D.int) = true := by
  rw [isPys_all, List.all_eq_true]
  intro d hd
  obtain ⟨t, _, rfl⟩ := List.mem_map.mp hd
  simp only [isPy]
theorem dp_ints (q : List Int) : dp (.lst (q.map D.int)) ≤ 1 := by
  simp only [dp, toPy, PyData.depth]
  have : ∀ q : List Int, PyData.depthAll (toPys (q.map D.int)) = 0 := by
    intro q
    induction q with
    | nil => simp [toPys, PyData.depthAll]
    | cons a q ih => simp [toPys, PyData.depthAll, toPy, PyData.depth, ih]
  rw [this]; decide
section
variable {O : Ow} {neg : Bool} {Q : VD}
end
/-! ### the lists within a thing -/
def Ls (O : Ow) : Nat → D → List Addr → Prop
  | _, .int _, rs => rs = []
  | n + 1, .ref a, rs => ∃ ds rss, O a = some (.lst ds) ∧ Paired (fun d r => Ls O n d r) ds rss ∧ rs = a :: rss.flatten
  | _, _, _ => False
theorem Ls.mono {O O' : Ow} (s : Sub O O') : ∀ {n : Nat} {x : D} {rs : List Addr}, Ls O n x rs → Ls O' n x rs
  | n, .int _, rs, h => by cases n <;> simpa only [Ls] using h
  | n + 1, .ref a, rs, h => by
    simp only [Ls] at h ⊢
    obtain ⟨ds, rss, h1, h2, h3⟩ := h
    exact ⟨ds, rss, s _ _ h1, Paired.mapP h2 fun _ _ z => Ls.mono s z, h3⟩
  | 0, .ref a, rs, h => by simp [Ls] at h
  | n, .non, rs, h => by cases n <;> simp [Ls] at h
  | n, .bl _, rs, h => by cases n <;> simp [Ls] at h
  | n, .str _, rs, h => by cases n <;> simp [Ls] at h
  | n, .tup _, rs, h => by cases n <;> simp [Ls] at h
  | n, .lst _, rs, h => by cases n <;> simp [Ls] at h
  | n, .ty _, rs, h => by cases n <;> simp [Ls] at h
  | n, .scr _, rs, h => by cases n <;> simp [Ls] at h
  | n, .edic, rs, h => by cases n <;> simp [Ls] at h
end Kf
/-! Kpw: the parts of a program, put back. -/
namespace Kf
open PySem PySem.Spec L2
open PyProof.Rows hiding St
/-- names and kinds are right texts -/
def Pg.sok : Pg → Bool
  | .nm x => PyData.strOk x
  | .thing => true
  | .take x k b => PyData.strOk x && k.ok && b.sok
  | .give f a => f.sok && a.sok
  | .pair a b => a.sok && b.sok
  | .first p => p.sok
  | .second p => p.sok
theorem isPy_dP : ∀ p : Pg, isPy (dP p) = p.sok
  | .nm x => by simp [dP, isPy, isPys, Pg.sok, sw_name]
  | .thing => by simp [dP, isPy, isPys, Pg.sok, sw_thing]
  | .take x k b => by simp [dP, isPy, isPys, Pg.sok, sw_take, isPy_dK, isPy_dP b, Bool.and_assoc]
  | .give f a => by simp [dP, isPy, isPys, Pg.sok, sw_give, isPy_dP f, isPy_dP a]
  | .pair f a => by simp [dP, isPy, isPys, Pg.sok, sw_pair, isPy_dP f, isPy_dP a]
  | .first f => by simp [dP, isPy, isPys, Pg.sok, sw_first, isPy_dP f]
  | .second f => by simp [dP, isPy, isPys, Pg.sok, sw_second, isPy_dP f]
theorem len2 {α : Type} {l : List α} (h : l.length = 2) : ∃ c d, l = [c, d] := by
  match l, h with
  | [c, d], _ => exact ⟨c, d, rfl⟩
/-- how deep a program is as data -/
def Pg.dpt : Pg → Nat
  | .nm _ => 1
  | .thing => 1
  | .take _ k b => max (k.depth + 1) b.dpt + 1
  | .give f a => max f.dpt a.dpt + 1
  | .pair f a => max f.dpt a.dpt + 1
  | .first p => p.dpt + 1
  | .second p => p.dpt + 1
theorem ins_ok {p q : Pg} (h : q ∈ p.ins) (hs : p.sok = true) : q.sok = true ∧ q.dpt < p.dpt := by
  cases p <;> simp only [Pg.ins, List.mem_cons, List.not_mem_nil, or_false] at h
  · subst h; simp only [Pg.sok, Bool.and_eq_true] at hs; exact ⟨hs.2, by simp only [Pg.dpt]; omega⟩
  · simp only [Pg.sok, Bool.and_eq_true] at hs
    rcases h with rfl | rfl
    · exact ⟨hs.1, by simp only [Pg.dpt]; omega⟩
    · exact ⟨hs.2, by simp only [Pg.dpt]; omega⟩
  · simp only [Pg.sok, Bool.and_eq_true] at hs
    rcases h with rfl | rfl
    · exact ⟨hs.1, by simp only [Pg.dpt]; omega⟩
    · exact ⟨hs.2, by simp only [Pg.dpt]; omega⟩
  · subst h; exact ⟨hs, by simp only [Pg.dpt]; omega⟩
  · subst h; exact ⟨hs, by simp only [Pg.dpt]; omega⟩
end Kf
/-! Krn: steps one behind another, names told by numbers; how many parts. -/
namespace Kf
open PySem PySem.Spec L2
open PyProof.Rows hiding St
def Db.hgt : Db → Nat
  | .at _ => 0
  | .nm _ => 0
  | .thing => 0
  | .take _ b => b.hgt + 1
  | .give f a => max f.hgt a.hgt + 1
  | .pair a b => max a.hgt b.hgt + 1
  | .first p => p.hgt + 1
  | .second p => p.hgt + 1
/-! ### steps with names told by numbers -/
def Db.ins : Db → List Db
  | .take _ b => [b]
  | .give f a => [f, a]
  | .pair a b => [a, b]
  | .first p => [p]
  | .second p => [p]
  | _ => []
def Db.isTake : Db → Bool
  | .take .. => true
  | _ => false
def Db.isPair : Db → Bool
  | .pair .. => true
  | _ => false
def Db.can : Db → Bool
  | .give f _ => f.isTake
  | .first p => p.isPair
  | .second p => p.isPair
  | _ => false
/-! ### how many parts -/
def Pg.psz : Pg → Nat
  | .nm _ => 1
  | .thing => 1
  | .take _ _ b => b.psz + 1
  | .give f a => f.psz + a.psz + 1
  | .pair a b => a.psz + b.psz + 1
  | .first p => p.psz + 1
  | .second p => p.psz + 1
def Db.psz : Db → Nat
  | .at _ => 1
  | .nm _ => 1
  | .thing => 1
  | .take _ b => b.psz + 1
  | .give f a => f.psz + a.psz + 1
  | .pair a b => a.psz + b.psz + 1
  | .first p => p.psz + 1
  | .second p => p.psz + 1
theorem Pg.psz_pos (p : Pg) : 0 < p.psz := by cases p <;> simp [Pg.psz]
theorem Db.psz_pos (p : Db) : 0 < p.psz := by cases p <;> simp [Db.psz]
theorem psz_hgt : ∀ p : Pg, p.psz + 1 ≤ 2 ^ (p.hgt + 1)
  | .nm _ => by simp [Pg.psz, Pg.hgt]
  | .thing => by simp [Pg.psz, Pg.hgt]
  | .take _ _ b => by have := psz_hgt b; simp only [Pg.psz, Pg.hgt]; rw [Nat.pow_succ]; omega
  | .first b => by have := psz_hgt b; simp only [Pg.psz, Pg.hgt]; rw [Nat.pow_succ]; omega
  | .second b => by have := psz_hgt b; simp only [Pg.psz, Pg.hgt]; rw [Nat.pow_succ]; omega
  | .give f a => by
    have h1 := psz_hgt f
    have h2 := psz_hgt a
    have h3 : 2 ^ (f.hgt + 1) ≤ 2 ^ (max f.hgt a.hgt + 1) := Nat.pow_le_pow_right (by decide) (by omega)
    have h4 : 2 ^ (a.hgt + 1) ≤ 2 ^ (max f.hgt a.hgt + 1) := Nat.pow_le_pow_right (by decide) (by omega)
    simp only [Pg.psz, Pg.hgt]
    rw [Nat.pow_succ 2 (max f.hgt a.hgt + 1)]
    omega
  | .pair f a => by
    have h1 := psz_hgt f
    have h2 := psz_hgt a
    have h3 : 2 ^ (f.hgt + 1) ≤ 2 ^ (max f.hgt a.hgt + 1) := Nat.pow_le_pow_right (by decide) (by omega)
    have h4 : 2 ^ (a.hgt + 1) ≤ 2 ^ (max f.hgt a.hgt + 1) := Nat.pow_le_pow_right (by decide) (by omega)
    simp only [Pg.psz, Pg.hgt]
    rw [Nat.pow_succ 2 (max f.hgt a.hgt + 1)]
    omega
/-! ### names and kinds are right ones -/
def Db.ok : Db → Prop
  | .at _ => True
  | .nm x => PyData.strOk x = true
  | .thing => True
  | .take k b => k.ok = true ∧ k.depth ≤ 12 ∧ b.ok
  | .give f a => f.ok ∧ a.ok
  | .pair f a => f.ok ∧ a.ok
  | .first p => p.ok
  | .second p => p.ok
/-! ### runs -/
structure Good (b : Db) : Prop where
  wf : Wf b 0
  ok : b.ok
  hg : b.hgt ≤ 100
  sz : b.psz ≤ 4194304
end Kf
/-! Kcf: whichever steps are done, the end is one. -/
namespace Kf
open PySem PySem.Spec L2
open PyProof.Rows hiding St
theorem mv_at_lo {i f n : Nat} (h : i < f) : moved (.at i) f n = .at i := by simp only [moved]; rw [if_neg (by omega)]; rfl
theorem mv_at_hi {i f n : Nat} (h : f ≤ i) : moved (.at i) f n = .at (i + n) := by simp only [moved]; rw [if_pos h]
theorem pt_at_lo {i t : Nat} {g : Db} (h : i < t) : put (.at i) t g = .at i := by simp only [put]; rw [if_neg (by omega), if_neg (by omega)]; rfl
theorem pt_at_eq {t : Nat} {g : Db} : put (.at t) t g = moved g 0 t := by simp [put]
theorem pt_at_hi {i t : Nat} {g : Db} (h : t < i) : put (.at i) t g = .at (i - 1) := by simp only [put]; rw [if_neg (by omega), if_pos h]
theorem mv_mv : ∀ (a : Db) {f f' n m : Nat}, f ≤ f' → f' ≤ f + n → moved (moved a f n) f' m = moved a f (n + m)
  | .at i, f, f', n, m, h1, h2 => by
    by_cases c : f ≤ i
    · rw [mv_at_hi c, mv_at_hi c, mv_at_hi (by omega)]; congr 1; omega
    · rw [mv_at_lo (by omega), mv_at_lo (by omega), mv_at_lo (by omega)]
  | .nm x, _, _, _, _, _, _ => rfl
  | .thing, _, _, _, _, _, _ => rfl
  | .take k b, f, f', n, m, h1, h2 => by simp only [moved]; rw [mv_mv b (by omega) (by omega)]
  | .give g a, f, f', n, m, h1, h2 => by simp only [moved]; rw [mv_mv g h1 h2, mv_mv a h1 h2]
  | .pair g a, f, f', n, m, h1, h2 => by simp only [moved]; rw [mv_mv g h1 h2, mv_mv a h1 h2]
  | .first p, f, f', n, m, h1, h2 => by simp only [moved]; rw [mv_mv p h1 h2]
  | .second p, f, f', n, m, h1, h2 => by simp only [moved]; rw [mv_mv p h1 h2]
theorem mv_comm : ∀ (a : Db) {e f j n : Nat}, e ≤ f → moved (moved a e j) (f + j) n = moved (moved a f n) e j
  | .at i, e, f, j, n, h => by
    by_cases c : f ≤ i
    · rw [mv_at_hi (show e ≤ i by omega), mv_at_hi c, mv_at_hi (by omega), mv_at_hi (by omega)]; congr 1; omega
    · rw [mv_at_lo (show i < f by omega)]
      by_cases d : e ≤ i
      · rw [mv_at_hi d, mv_at_lo (by omega)]
      · rw [mv_at_lo (by omega), mv_at_lo (by omega)]
  | .nm x, _, _, _, _, _ => rfl
  | .thing, _, _, _, _, _ => rfl
  | .take k b, e, f, j, n, h => by
    simp only [moved]
    have := mv_comm b (e := e + 1) (f := f + 1) (j := j) (n := n) (by omega)
    rw [show f + j + 1 = f + 1 + j by omega, this]
  | .give g a, e, f, j, n, h => by simp only [moved]; rw [mv_comm g h, mv_comm a h]
  | .pair g a, e, f, j, n, h => by simp only [moved]; rw [mv_comm g h, mv_comm a h]
  | .first p, e, f, j, n, h => by simp only [moved]; rw [mv_comm p h]
  | .second p, e, f, j, n, h => by simp only [moved]; rw [mv_comm p h]
theorem mv_put : ∀ (b : Db) {a : Db} {j f n : Nat}, moved (put b j a) (f + j) n = put (moved b (f + 1 + j) n) j (moved a f n)
  | .at i, a, j, f, n => by
    by_cases c : i = j
    · subst c
      rw [pt_at_eq, mv_at_lo (show i < f + 1 + i by omega), pt_at_eq, mv_comm a (Nat.zero_le _)]
    · by_cases d : i < j
      · rw [pt_at_lo d, mv_at_lo (by omega), mv_at_lo (by omega), pt_at_lo d]
      · rw [pt_at_hi (by omega)]
        by_cases e : f + 1 + j ≤ i
        · rw [mv_at_hi (by omega), mv_at_hi e, pt_at_hi (by omega)]; congr 1; omega
        · rw [mv_at_lo (by omega), mv_at_lo (by omega), pt_at_hi (by omega)]
  | .nm x, _, _, _, _ => rfl
  | .thing, _, _, _, _ => rfl
  | .take k b, a, j, f, n => by
    simp only [moved, put]
    have := mv_put b (a := a) (j := j + 1) (f := f) (n := n)
    rw [show f + j + 1 = f + (j + 1) by omega, this, show f + 1 + (j + 1) = f + 1 + j + 1 by omega]
  | .give g c, a, j, f, n => by simp only [moved, put]; rw [mv_put g, mv_put c]
  | .pair g c, a, j, f, n => by simp only [moved, put]; rw [mv_put g, mv_put c]
  | .first p, a, j, f, n => by simp only [moved, put]; rw [mv_put p]
  | .second p, a, j, f, n => by simp only [moved, put]; rw [mv_put p]
theorem pt_mv : ∀ (a : Db) {g : Db} {e n t : Nat}, e ≤ t → t ≤ e + n → put (moved a e (n + 1)) t g = moved a e n
  | .at i, g, e, n, t, h1, h2 => by
    by_cases c : e ≤ i
    · rw [mv_at_hi c, mv_at_hi c, pt_at_hi (by omega)]; congr 1
    · rw [mv_at_lo (by omega), mv_at_lo (by omega), pt_at_lo (by omega)]
  | .nm x, _, _, _, _, _, _ => rfl
  | .thing, _, _, _, _, _, _ => rfl
  | .take k b, g, e, n, t, h1, h2 => by simp only [moved, put]; rw [pt_mv b (by omega) (by omega)]
  | .give f a, g, e, n, t, h1, h2 => by simp only [moved, put]; rw [pt_mv f h1 h2, pt_mv a h1 h2]
  | .pair f a, g, e, n, t, h1, h2 => by simp only [moved, put]; rw [pt_mv f h1 h2, pt_mv a h1 h2]
  | .first p, g, e, n, t, h1, h2 => by simp only [moved, put]; rw [pt_mv p h1 h2]
  | .second p, g, e, n, t, h1, h2 => by simp only [moved, put]; rw [pt_mv p h1 h2]
theorem pt_mv2 : ∀ (a : Db) {g : Db} {e j t : Nat}, e ≤ t → put (moved a e j) (t + j) g = moved (put a t g) e j
  | .at i, g, e, j, t, h => by
    by_cases c : i = t
    · subst c
      rw [mv_at_hi h, pt_at_eq, pt_at_eq, mv_mv g (Nat.zero_le _) (by omega)]
    · by_cases d : i < t
      · rw [pt_at_lo d]
        by_cases e' : e ≤ i
        · rw [mv_at_hi e', pt_at_lo (by omega)]
        · rw [mv_at_lo (by omega), pt_at_lo (by omega)]
      · rw [pt_at_hi (by omega), mv_at_hi (by omega), mv_at_hi (by omega), pt_at_hi (by omega)]; congr 1; omega
  | .nm x, _, _, _, _, _ => rfl
  | .thing, _, _, _, _, _ => rfl
  | .take k b, g, e, j, t, h => by
    simp only [moved, put]
    have := pt_mv2 b (g := g) (e := e + 1) (j := j) (t := t + 1) (by omega)
    rw [show t + j + 1 = t + 1 + j by omega, this]
  | .give f a, g, e, j, t, h => by simp only [moved, put]; rw [pt_mv2 f h, pt_mv2 a h]
  | .pair f a, g, e, j, t, h => by simp only [moved, put]; rw [pt_mv2 f h, pt_mv2 a h]
  | .first p, g, e, j, t, h => by simp only [moved, put]; rw [pt_mv2 p h]
  | .second p, g, e, j, t, h => by simp only [moved, put]; rw [pt_mv2 p h]
theorem pt_pt : ∀ (b : Db) {a g : Db} {j t : Nat}, put (put b j a) (t + j) g = put (put b (t + j + 1) g) j (put a t g)
  | .at i, a, g, j, t => by
    by_cases c : i = j
    · subst c
      rw [pt_at_eq, pt_at_lo (show i < t + i + 1 by omega), pt_at_eq, pt_mv2 a (Nat.zero_le _)]
    · by_cases d : i < j
      · rw [pt_at_lo d, pt_at_lo (by omega), pt_at_lo (by omega), pt_at_lo d]
      · rw [pt_at_hi (show j < i by omega)]
        by_cases e : i = t + j + 1
        · subst e
          rw [show t + j + 1 - 1 = t + j by omega, pt_at_eq, pt_at_eq, pt_mv g (Nat.zero_le _) (by omega)]
        · by_cases e2 : i < t + j + 1
          · rw [pt_at_lo (by omega), pt_at_lo (by omega), pt_at_hi (by omega)]
          · rw [pt_at_hi (by omega), pt_at_hi (by omega), pt_at_hi (by omega)]
  | .nm x, _, _, _, _ => rfl
  | .thing, _, _, _, _ => rfl
  | .take k b, a, g, j, t => by
    simp only [put]
    have := pt_pt b (a := a) (g := g) (j := j + 1) (t := t)
    rw [show t + j + 1 = t + (j + 1) by omega, this]
  | .give f c, a, g, j, t => by simp only [put]; rw [pt_pt f, pt_pt c]
  | .pair f c, a, g, j, t => by simp only [put]; rw [pt_pt f, pt_pt c]
  | .first p, a, g, j, t => by simp only [put]; rw [pt_pt p]
  | .second p, a, g, j, t => by simp only [put]; rw [pt_pt p]
/-- some of the steps that can be done, all at once -/
inductive Par : Db → Db → Prop
  | at (i : Nat) : Par (.at i) (.at i)
  | nm (x : Str) : Par (.nm x) (.nm x)
  | thing : Par .thing .thing
  | take (k : Kd) {b b' : Db} : Par b b' → Par (.take k b) (.take k b')
  | give {f f' a a' : Db} : Par f f' → Par a a' → Par (.give f a) (.give f' a')
  | pair {f f' a a' : Db} : Par f f' → Par a a' → Par (.pair f a) (.pair f' a')
  | first {p p' : Db} : Par p p' → Par (.first p) (.first p')
  | second {p p' : Db} : Par p p' → Par (.second p) (.second p')
  | beta (k : Kd) {b b' a a' : Db} : Par b b' → Par a a' → Par (.give (.take k b) a) (put b' 0 a')
  | fst {a a' : Db} (c : Db) : Par a a' → Par (.first (.pair a c)) a'
  | snd {a a' : Db} (c : Db) : Par a a' → Par (.second (.pair c a)) a'
theorem Par.refl : ∀ b : Db, Par b b
  | .at i => .at i
  | .nm x => .nm x
  | .thing => .thing
  | .take k b => .take k (Par.refl b)
  | .give f a => .give (Par.refl f) (Par.refl a)
  | .pair f a => .pair (Par.refl f) (Par.refl a)
  | .first p => .first (Par.refl p)
  | .second p => .second (Par.refl p)
theorem Par.mv {b b' : Db} (h : Par b b') : ∀ (f n : Nat), Par (moved b f n) (moved b' f n) := by
  induction h with
  | «at» i => intro f n; exact Par.refl _
  | nm x => intro f n; exact Par.refl _
  | thing => intro f n; exact Par.refl _
  | take k _ ih => intro f n; exact .take k (ih (f + 1) n)
  | give _ _ ih1 ih2 => intro f n; exact .give (ih1 f n) (ih2 f n)
  | pair _ _ ih1 ih2 => intro f n; exact .pair (ih1 f n) (ih2 f n)
  | first _ ih => intro f n; exact .first (ih f n)
  | second _ ih => intro f n; exact .second (ih f n)
  | @beta k b b' a a' _ _ ih1 ih2 =>
    intro f n
    have e := mv_put b' (a := a') (j := 0) (f := f) (n := n)
    rw [Nat.add_zero, Nat.add_zero] at e
    rw [e]
    exact .beta k (ih1 (f + 1) n) (ih2 f n)
  | fst c _ ih => intro f n; exact .fst _ (ih f n)
  | snd c _ ih => intro f n; exact .snd _ (ih f n)
theorem Par.pt {b b' : Db} (h : Par b b') : ∀ {a a' : Db} (t : Nat), Par a a' → Par (put b t a) (put b' t a') := by
  induction h with
  | «at» i =>
    intro a a' t ha
    by_cases c : i = t
    · subst c; rw [pt_at_eq, pt_at_eq]; exact ha.mv 0 i
    · by_cases d : i < t
      · rw [pt_at_lo d, pt_at_lo d]; exact .at i
      · rw [pt_at_hi (by omega), pt_at_hi (by omega)]; exact .at _
  | nm x => intro a a' t ha; exact .nm x
  | thing => intro a a' t ha; exact .thing
  | take k _ ih => intro a a' t ha; exact .take k (ih (t + 1) ha)
  | give _ _ ih1 ih2 => intro a a' t ha; exact .give (ih1 t ha) (ih2 t ha)
  | pair _ _ ih1 ih2 => intro a a' t ha; exact .pair (ih1 t ha) (ih2 t ha)
  | first _ ih => intro a a' t ha; exact .first (ih t ha)
  | second _ ih => intro a a' t ha; exact .second (ih t ha)
  | @beta k b b' c c' _ _ ih1 ih2 =>
    intro a a' t ha
    have e := pt_pt b' (a := c') (g := a') (j := 0) (t := t)
    rw [Nat.add_zero] at e
    rw [e]
    exact .beta k (ih1 (t + 1) ha) (ih2 t ha)
  | fst c _ ih => intro a a' t ha; exact .fst _ (ih t ha)
  | snd c _ ih => intro a a' t ha; exact .snd _ (ih t ha)
/-- one after another -/
inductive Pars : Db → Db → Prop
  | nil (b : Db) : Pars b b
  | cons {a b c : Db} : Par a b → Pars b c → Pars a c
theorem Pars.trans {a b c : Db} (h : Pars a b) (h' : Pars b c) : Pars a c := by
  induction h with
  | nil _ => exact h'
  | cons h1 _ ih => exact .cons h1 (ih h')
end Kf
/-! Ksz: how great a program becomes by one step; places of a tidied program. -/
namespace Kf
open PySem PySem.Spec L2
open PyProof.Rows hiding St
end Kf
/-! Kty: kinds of programs whose names are numbers; steps keep them. -/
namespace Kf
open PySem PySem.Spec L2
open PyProof.Rows hiding St
section
variable {e : Str → Option Kd}
/-! ### kinds are small -/
def Pg.ka : Pg → Prop
  | .nm _ => True
  | .thing => True
  | .take _ k b => k.ok = true ∧ k.depth ≤ 12 ∧ b.ka
  | .give f a => f.ka ∧ a.ka
  | .pair f a => f.ka ∧ a.ka
  | .first p => p.ka
  | .second p => p.ka
def EOk (e : Str → Option Kd) : Prop := ∀ x k, e x = some k → k.ok = true ∧ k.depth ≤ 12
theorem EOk.ext {e : Str → Option Kd} (h : EOk e) {x : Str} {a : Kd} (h1 : a.ok = true) (h2 : a.depth ≤ 12) : EOk (fun y => if x = y then some a else e y) := fun y k q => by
  dsimp only at q
  split at q
  · cases q; exact ⟨h1, h2⟩
  · exact h y k q
theorem kd_has : ∀ (p : Pg) (e : Str → Option Kd) (k : Kd), hasK e p k → EOk e → p.ka → k.ok = true ∧ k.depth ≤ 12 + p.hgt
  | .nm x, e, k, h, he, _ => he x k h
  | .thing, e, k, h, _, _ => by subst h; exact ⟨rfl, by simp [Kd.depth]⟩
  | .take x a b, e, k, ⟨r, e1, h⟩, he, ⟨h1, h2, h3⟩ => by
    have := kd_has b _ r h (he.ext h1 h2) h3
    subst e1
    simp only [Kd.ok, Kd.depth, Pg.hgt, h1, this.1, Bool.and_self, true_and]
    omega
  | .give f a, e, k, ⟨c, h1, h2⟩, he, hk => by
    have := kd_has f e _ h1 he hk.1
    simp only [Kd.ok, Kd.depth, Bool.and_eq_true] at this
    simp only [Pg.hgt]
    exact ⟨this.1.2, by omega⟩
  | .pair f a, e, k, ⟨c, d, e1, h1, h2⟩, he, hk => by
    have i1 := kd_has f e _ h1 he hk.1
    have i2 := kd_has a e _ h2 he hk.2
    subst e1
    simp only [Kd.ok, Kd.depth, Pg.hgt, i1.1, i2.1, Bool.and_self, true_and]
    omega
  | .first p, e, k, ⟨d, h⟩, he, hk => by
    have := kd_has p e _ h he hk
    simp only [Kd.ok, Kd.depth, Bool.and_eq_true] at this
    simp only [Pg.hgt]
    exact ⟨this.1.1, by omega⟩
  | .second p, e, k, ⟨d, h⟩, he, hk => by
    have := kd_has p e _ h he hk
    simp only [Kd.ok, Kd.depth, Bool.and_eq_true] at this
    simp only [Pg.hgt]
    exact ⟨this.1.2, by omega⟩
/-! ### the kind here -/
def khere (e : Str → Option Kd) : Pg → List Kd → Option Kd
  | .nm x, _ => e x
  | .thing, _ => some .one
  | .take _ k _, [r] => some (.to k r)
  | .pair _ _, [a, b] => some (.both a b)
  | .give _ _, [.to c k, a] => if c = a then some k else none
  | .first _, [.both a _] => some a
  | .second _, [.both _ b] => some b
  | _, _ => none
def dKo : Option Kd → D
  | some k => dK k
  | none => .non
/-! ### going along a run -/
end
end Kf
/-! Kgen: what the laws about any programs draw. -/
namespace Kf
open PySem PySem.Spec L2
open PyProof.Rows hiding St
def UN : List Str := ["p", "q", "f", "g", "u", "v", "x0", "x7"]
def TN : List Str := ["u", "v", "x0", "x7", "f"]
theorem un_ok : ∀ t ∈ UN, PyData.strOk t = true := by decide +kernel
theorem tn_un : ∀ t ∈ TN, t ∈ UN ∧ t ≠ "p" ∧ t ≠ "q" := by decide +kernel
structure RowU (kn : List (Str × Kd)) : Prop where
  nm : ∀ q ∈ kn, q.1 ∈ UN ∧ q.2.over AB ∧ q.2.leaves ≤ 4
  ep : envOf kn "p" = some (.mk "a")
  eq : envOf kn "q" = some (.mk "b")
theorem RowU.snoc {kn : List (Str × Kd)} (h : RowU kn) {x : Str} {k : Kd} (hx : x ∈ TN) (ho : k.over AB) (hl : k.leaves ≤ 4) : RowU (kn ++ [(x, k)]) := by
  obtain ⟨h1, h2, h3⟩ := tn_un x hx
  refine ⟨fun q hq => ?_, ?_, ?_⟩
  · rcases List.mem_append.mp hq with hq | hq
    · exact h.nm q hq
    · rw [List.mem_singleton.mp hq]; exact ⟨h1, ho, hl⟩
  · rw [envOf_snoc, if_neg h2]; exact h.ep
  · rw [envOf_snoc, if_neg h3]; exact h.eq
/-- what the names' table holds behind a row's first ones -/
structure DInvU (pre : List (Str × Kd)) (kvs : List (Key × D)) (ts : List Str) : Prop where
  ks : kvs.map (·.1) = ts.map Sum.inr
  nd : ts.Nodup
  an : ∀ t ∈ ts, t ∈ UN
  vl : ∀ x : Str, valD kvs (.inr x) = (envOf pre x).map dK
theorem DInvU.nil : DInvU [] [] [] := ⟨rfl, List.nodup_nil, fun _ h => (nomatch h), fun _ => rfl⟩
theorem DInvU.len {pre : List (Str × Kd)} {kvs : List (Key × D)} {ts : List Str} (h : DInvU pre kvs ts) : ts.length ≤ 8 ∧ kvs.length ≤ 8 := by
  have h1 : ts.length ≤ 8 := nodup_le (us := UN) h.nd h.an
  have h2 : kvs.length = ts.length := by have := congrArg List.length h.ks; simpa using this
  omega
theorem DInvU.put {pre : List (Str × Kd)} {kvs : List (Key × D)} {ts : List Str} (h : DInvU pre kvs ts) {x : Str} {k : Kd} (hx : x ∈ UN) : ∃ ts', DInvU (pre ++ [(x, k)]) (putD kvs (.inr x) (dK k)) ts' := by
  have hv : ∀ y : Str, valD (putD kvs (.inr x) (dK k)) (.inr y) = (envOf (pre ++ [(x, k)]) y).map dK := fun y => by
    rw [valD_put, envOf_snoc]
    by_cases e : x = y
    · subst e; simp
    · rw [if_neg (fun q => e (Sum.inr.inj q).symm), if_neg e, h.vl]
  have hk := keys_put kvs (.inr x) (dK k)
  by_cases c : (valD kvs (.inr x)).isSome = true
  · rw [if_pos c] at hk
    exact ⟨ts, hk.trans h.ks, h.nd, h.an, hv⟩
  · rw [if_neg c] at hk
    refine ⟨ts ++ [x], by rw [hk, h.ks, List.map_append]; rfl, ?_, ?_, hv⟩
    · refine List.nodup_append.mpr ⟨h.nd, by simp, fun a ha b hb e => c ?_⟩
      rw [List.mem_singleton.mp hb] at e
      subst e
      exact valD_mem.mp (by rw [h.ks]; exact List.mem_map.mpr ⟨a, ha, rfl⟩)
    · intro t ht
      rcases List.mem_append.mp ht with ht | ht
      · exact h.an t ht
      · rw [List.mem_singleton.mp ht]; exact hx
theorem DInvU.has {pre : List (Str × Kd)} {kvs : List (Key × D)} {ts : List Str} (h : DInvU pre kvs ts) {x : Str} (hx : x ∈ ts) : ∃ k, envOf pre x = some k := by
  have h1 := valD_mem.mp (show Sum.inr x ∈ kvs.map (·.1) by rw [h.ks]; exact List.mem_map.mpr ⟨x, hx, rfl⟩)
  rw [h.vl] at h1
  cases e : envOf pre x with
  | none => rw [e] at h1; simp at h1
  | some k => exact ⟨k, rfl⟩
theorem keysD_strs {kvs : List (Key × D)} {ts : List Str} (h : kvs.map (·.1) = ts.map Sum.inr) : keysD kvs = ts.map D.str := by
  have : keysD kvs = (kvs.map (·.1)).map keyD := by unfold keysD; rw [List.map_map]; rfl
  rw [this, h, List.map_map]
  rfl
/-! ### uses of a name -/
inductive Mv where
  | k (k : Kd) | one | two
def dMv : Mv → D
  | .k k => dK k
  | .one => .int 1
  | .two => .int 2
def Us : Kd → List Mv → Kd → Prop
  | k, [], g => k = g
  | .to a b, .k c :: ms, g => c = a ∧ Us b ms g
  | .both a _, .one :: ms, g => Us a ms g
  | .both _ b, .two :: ms, g => Us b ms g
  | _, _ :: _, _ => False
theorem us_len : ∀ (k : Kd) (ms : List Mv) (g : Kd), Us k ms g → ms.length ≤ k.depth
  | _, [], _, _ => Nat.zero_le _
  | .to a b, .k c :: ms, g, h => by have := us_len b ms g h.2; simp only [List.length_cons, Kd.depth]; omega
  | .both a b, .one :: ms, g, h => by have := us_len a ms g h; simp only [List.length_cons, Kd.depth]; omega
  | .both a b, .two :: ms, g, h => by have := us_len b ms g h; simp only [List.length_cons, Kd.depth]; omega
  | .mk _, m :: _, _, h => by cases m <;> exact (h : False).elim
  | .one, m :: _, _, h => by cases m <;> exact (h : False).elim
  | .to _ _, .one :: _, _, h => (h : False).elim
  | .to _ _, .two :: _, _, h => (h : False).elim
  | .both _ _, .k _ :: _, _, h => (h : False).elim
theorem us_kd : ∀ (k : Kd) (ms : List Mv) (g : Kd), Us k ms g → k.over AB → ∀ c, Mv.k c ∈ ms → c.over AB ∧ c.leaves < k.leaves
  | _, [], _, _, _, c, hc => nomatch hc
  | .to a b, .k d :: ms, g, h, ho, c, hc => by
    have hb : 0 < b.leaves := by cases b <;> simp only [Kd.leaves] <;> have := Kd.depth_lt <;> (try (rename_i x y; have := x.depth_lt)) <;> omega
    have ha : 0 < a.leaves := by cases a <;> simp only [Kd.leaves] <;> (try (rename_i x y; have := x.depth_lt)) <;> omega
    rcases List.mem_cons.mp hc with e | hc
    · cases e
      obtain ⟨rfl, _⟩ := h
      exact ⟨ho.1, by simp only [Kd.leaves]; omega⟩
    · have := us_kd b ms g h.2 ho.2 c hc
      exact ⟨this.1, by simp only [Kd.leaves]; omega⟩
  | .both a b, .one :: ms, g, h, ho, c, hc => by
    rcases List.mem_cons.mp hc with e | hc
    · cases e
    · have := us_kd a ms g h ho.1 c hc
      exact ⟨this.1, by simp only [Kd.leaves]; omega⟩
  | .both a b, .two :: ms, g, h, ho, c, hc => by
    rcases List.mem_cons.mp hc with e | hc
    · cases e
    · have := us_kd b ms g h ho.2 c hc
      exact ⟨this.1, by simp only [Kd.leaves]; omega⟩
  | .mk _, m :: _, _, h, _, _, _ => by cases m <;> exact (h : False).elim
  | .one, m :: _, _, h, _, _, _ => by cases m <;> exact (h : False).elim
  | .to _ _, .one :: _, _, h, _, _, _ => (h : False).elim
  | .to _ _, .two :: _, _, h, _, _, _ => (h : False).elim
  | .both _ _, .k _ :: _, _, h, _, _, _ => (h : False).elim
/-! ### names and kinds as drawn -/
def pgu : Pg → Prop
  | .nm x => x ∈ UN
  | .thing => True
  | .take x k b => x ∈ TN ∧ k.over AB ∧ k.leaves ≤ 4 ∧ pgu b
  | .give f a => pgu f ∧ pgu a
  | .pair f a => pgu f ∧ pgu a
  | .first p => pgu p
  | .second p => pgu p
def hasU (e : Str → Option Kd) (p : Pg) (k : Kd) : Prop := hasK e p k ∧ pgu p
theorem hu_give {e : Str → Option Kd} {f a : Pg} {d k : Kd} (h1 : hasU e f (.to d k)) (h2 : hasU e a d) : hasU e (.give f a) k := ⟨⟨d, h1.1, h2.1⟩, h1.2, h2.2⟩
theorem hu_pair {e : Str → Option Kd} {f a : Pg} {d k : Kd} (h1 : hasU e f d) (h2 : hasU e a k) : hasU e (.pair f a) (.both d k) := ⟨⟨d, k, rfl, h1.1, h2.1⟩, h1.2, h2.2⟩
theorem hu_first {e : Str → Option Kd} {f : Pg} {d k : Kd} (h1 : hasU e f (.both k d)) : hasU e (.first f) k := ⟨⟨d, h1.1⟩, h1.2⟩
theorem hu_second {e : Str → Option Kd} {f : Pg} {d k : Kd} (h1 : hasU e f (.both d k)) : hasU e (.second f) k := ⟨⟨d, h1.1⟩, h1.2⟩
theorem hu_take {kn : List (Str × Kd)} {x : Str} {b : Pg} {d k : Kd} (hx : x ∈ TN) (ho : d.over AB) (hl : d.leaves ≤ 4) (h1 : hasU (envOf (kn ++ [(x, d)])) b k) : hasU (envOf kn) (.take x d b) (.to d k) := by
  refine ⟨⟨k, rfl, ?_⟩, hx, ho, hl, h1.2⟩
  have := h1.1
  rw [envOf_ext] at this
  exact this
theorem pgu_ok : ∀ (p : Pg), pgu p → p.sok = true ∧ p.dpt ≤ p.hgt + 6
  | .nm x, h => ⟨un_ok x h, by simp [Pg.dpt]⟩
  | .thing, _ => ⟨rfl, by simp [Pg.dpt]⟩
  | .take x k b, h => by
    obtain ⟨h1, h2, h3, h4⟩ := h
    have ih := pgu_ok b h4
    have := k.depth_lt
    simp only [Pg.sok, Pg.dpt, Pg.hgt, un_ok x (tn_un x h1).1, over_ok ab_ok k h2, ih.1, Bool.and_self, true_and]
    omega
  | .give f a, h => by
    have h1 := pgu_ok f h.1
    have h2 := pgu_ok a h.2
    simp only [Pg.sok, Pg.dpt, Pg.hgt, h1.1, h2.1, Bool.and_self, true_and]
    omega
  | .pair f a, h => by
    have h1 := pgu_ok f h.1
    have h2 := pgu_ok a h.2
    simp only [Pg.sok, Pg.dpt, Pg.hgt, h1.1, h2.1, Bool.and_self, true_and]
    omega
  | .first p, h => by
    have h1 := pgu_ok p h
    simp only [Pg.sok, Pg.dpt, Pg.hgt, h1.1, true_and]
    omega
  | .second p, h => by
    have h1 := pgu_ok p h
    simp only [Pg.sok, Pg.dpt, Pg.hgt, h1.1, true_and]
    omega
theorem pgu_ka : ∀ p : Pg, pgu p → p.ka
  | .nm _, _ => trivial
  | .thing, _ => trivial
  | .take x k b, h => by
    obtain ⟨h1, h2, h3, h4⟩ := h
    have := k.depth_lt
    exact ⟨over_ok ab_ok k h2, by omega, pgu_ka b h4⟩
  | .give f a, h => ⟨pgu_ka f h.1, pgu_ka a h.2⟩
  | .pair f a, h => ⟨pgu_ka f h.1, pgu_ka a h.2⟩
  | .first p, h => pgu_ka p h
  | .second p, h => pgu_ka p h
/-! ### a program's word, a kind's word -/
def pw : Pg → Str
  | .nm _ => "name"
  | .thing => "thing"
  | .take .. => "take"
  | .give .. => "give"
  | .pair .. => "pair"
  | .first _ => "first"
  | .second _ => "second"
def kw : Kd → Str
  | .mk _ => "mark"
  | .one => "one"
  | .to .. => "to"
  | .both .. => "both"
def WD : List Str := ["name", "take", "give", "pair", "first", "second", "thing"]
theorem pw_in (p : Pg) : decide (pw p ∈ WD) = true := by
  have h1 : Str.ofString "name" ∈ WD := by decide +kernel
  have h2 : Str.ofString "thing" ∈ WD := by decide +kernel
  have h3 : Str.ofString "take" ∈ WD := by decide +kernel
  have h4 : Str.ofString "give" ∈ WD := by decide +kernel
  have h5 : Str.ofString "pair" ∈ WD := by decide +kernel
  have h6 : Str.ofString "first" ∈ WD := by decide +kernel
  have h7 : Str.ofString "second" ∈ WD := by decide +kernel
  exact decide_eq_true (by cases p <;> first | exact h1 | exact h2 | exact h3 | exact h4 | exact h5 | exact h6 | exact h7)
theorem kw_in (k : Kd) : decide (kw k ∈ WD) = false := by
  have h1 : Str.ofString "mark" ∉ WD := by decide +kernel
  have h2 : Str.ofString "one" ∉ WD := by decide +kernel
  have h3 : Str.ofString "to" ∉ WD := by decide +kernel
  have h4 : Str.ofString "both" ∉ WD := by decide +kernel
  exact decide_eq_false (by cases k <;> first | exact h1 | exact h2 | exact h3 | exact h4)
theorem wd_ok : ∀ t ∈ WD, PyData.strOk t = true := by decide +kernel
theorem pw_ok (p : Pg) : PyData.strOk (pw p) = true := wd_ok _ (of_decide_eq_true (pw_in p))
theorem kw_ok (k : Kd) : PyData.strOk (kw k) = true := by cases k <;> first | exact so_mark | exact so_one | exact so_to | exact so_both
section
variable {O : Ow} {Q : VD} {neg : Bool}
theorem rIx_dP0 {p : Pg} : rIxD (dP p) (.int 0) O Q = Q (.str (pw p)) O := by cases p <;> exact rIx_t0
theorem rIx_dK0 {k : Kd} : rIxD (dK k) (.int 0) O Q = Q (.str (kw k)) O := by cases k <;> exact rIx_t0
theorem isi_dP {p : Pg} : rIsiD [dP p, .ty "tuple"] O Q = Q (.bl true) O := by cases p <;> exact isi_t_tuple
theorem isi_dK {k : Kd} : rIsiD [dK k, .ty "tuple"] O Q = Q (.bl true) O := by cases k <;> exact isi_t_tuple
theorem rIn_wl {z : Str} {ts : List Str} (hz : PyData.strOk z = true) (h : ∀ t ∈ ts, PyData.strOk t = true) : rInD neg (.str z) (.lst (ts.map .str)) O Q = Q (.bl (neg ^^ decide (z ∈ ts))) O := by
  have := rIn_ws (neg := neg) (O := O) (Q := Q) hz h
  simp only [rInD, deref_str, deref_tup, deref_lst] at this ⊢
  exact this
theorem rIn_pw {p : Pg} : rInD neg (.str (pw p)) (.lst (WD.map .str)) O Q = Q (.bl !neg) O := by
  rw [rIn_wl (pw_ok p) wd_ok, pw_in]; cases neg <;> rfl
theorem rIn_kw {k : Kd} : rInD neg (.str (kw k)) (.lst (WD.map .str)) O Q = Q (.bl neg) O := by
  rw [rIn_wl (kw_ok k) wd_ok, kw_in]; cases neg <;> rfl
theorem rEq_Ki {k : Kd} {i : Int} (hk : k.ok = true) : rEqD neg (dK k) (.int i) O Q = Q (.bl neg) O := by
  have e : deq (dK k) (.int i) = false := by cases k <;> exact deq_ti
  rw [rEq_dr (by rw [deref_dK, isPy_dK]; exact hk) (by simp [deref, isPy]) (by simp [deref, dpI]), deref_dK, deref_int, e]
  cases neg <;> rfl
end
def psz4 {p : Pg} (h : p.hgt ≤ 4) : p.psz ≤ 31 := by
  have h1 := psz_hgt p
  have h2 : 2 ^ (p.hgt + 1) ≤ 2 ^ 5 := Nat.pow_le_pow_right (by decide) (by omega)
  have h3 : (2 : Nat) ^ 5 = 32 := by decide
  omega
end Kf
namespace Kf
open PySem PySem.Spec L2
open PyProof.Rows hiding St
local macro_rules | `(tactic| walk_at "kf") => `(tactic| simp (config := { failIfUnchanged := false }) only [startD, ap_fiEnumT, asT1_t, ap_fKGet, asStr_s, ap_fKIn, ap_fKIx, ap_gAsgL, rUnl_l, ap_fiRng3, asR3_i, rSplitO_s, ap_fOrL, rOrL_l, ap_fLcK, ap_gForK, ap_fMaxD, rMaxD_l, rMaxL_l, ap_fCallXD, ap_gForE, asLE_l, ap_fFrz, ap_fDicO, ap_fDGet, ap_fDGet1, ap_fDGet2, ap_gDPut, ap_fIsiT, ap_gForR, rRep_l, isT_i, isT_s, isT_b, isT_n, isT_t, isT_l, ap_gSeq, ap_gIf, ap_gRet, ap_gNext, ap_gSet, ap_gAsg, ap_gPar, ap_gDrop, ap_gRetF, ap_gRetN, ap_gFor, ap_gSetIx, ap_gBreak, ap_fRev, ap_fiRevR, asIR_i, rRev_l, ap_fCallX, ap_gRaise, ap_gTry, ap_gTryAs, ap_gNever, ap_fEdic, ap_fTest, ap_fOp, ap_fVar, envGet_s, patGet_s, ap_fC, ap_fCB, ap_fCons, ap_fNil, ap_fCall, ap_fAnd, ap_fOr, ap_fNot, ap_fAndV, ap_fOrV, ap_fNotV, ap_fIf, ap_fTup, ap_fLst, ap_fLstO, ap_fChain, ap_fUn, ap_fBM, ap_fBM0, ap_fPool, rPool_i, ap_fSl, ap_fPart, ap_fNoPart, asI_i, rSl_l, ap_fiRng1, ap_fiRng2, ap_fiList, ap_fiTup, ap_fiStr, ap_fiEnum, ap_fiZip, ap_fiRev, asL_l, asT_t, asSg_s, asR1_i, asR2_i, asL1_l, asL2_l, ap_fLc, ap_fLcO, ap_fYes, wipeD, lcD, isi_i_int, isi_i_bool, isi_i_str, isi_i_tuple, isi_i_list, isi_i_dict, isi_b_int, isi_b_bool, isi_b_str, isi_b_tuple, isi_b_list, isi_b_dict, isi_s_int, isi_s_bool, isi_s_str, isi_s_tuple, isi_s_list, isi_s_dict, isi_t_int, isi_t_bool, isi_t_str, isi_t_tuple, isi_t_list, isi_t_dict, isi_l_int, isi_l_bool, isi_l_str, isi_l_tuple, isi_l_list, isi_l_dict, isi_n_int, isi_n_bool, isi_n_str, isi_n_tuple, isi_n_list, isi_n_dict, isi_d_int, isi_d_bool, isi_d_str, isi_d_tuple, isi_d_list, isi_d_dict,
  deref_tup, deref_lst, deref_int, deref_str, deref_bl, deref_non, deref_scr, rLt_i, rLt_s, rLe_i, rLe_s, rInts_i, rInts0_i, rAdd_i, rAdd_s, rAdd_l, rAdd_t, rCatO_l, rNeg_i, rLen_t, rLen_l, rLen_c, rLen_s, rMax_i, rMin_i, rInt_i, rInt_b, rDivmod_i, ap_gAug, rStr_i, rList_l, rList_t, rListO_l, rListO_t, rTup_l, rTup_t,
  rIx_t0, rIx_t1, rIx_t2, rIx_t3, rIx_l0, rIx_l1, rIx_l2, rIsN_x, isNon_t, isNon_n, isNon_i, isNon_s, isNon_l, rEq_i, rEq_b, rEq_i2, rEq_b2, rJoin_m, rSplit_s, tyOk_l, tyOk_s, patD_nm, patD_tp, patDs_nil, patDs_cons, Option.bind_some, notX, notX',
  List.map_cons, List.map_nil, List.length_cons, List.length_nil, List.cons_append, List.nil_append, List.append_nil, List.replicate, List.getElem?_cons_zero, List.getElem?_cons_succ, List.set_cons_zero, List.set_cons_succ, updO_same, updO_updO,
  Nat.reduceSub, Nat.reduceAdd, Nat.reduceLeDiff, Nat.zero_add, Int.cast_ofNat_Int, Int.natCast_zero, Int.natCast_one, Int.reduceLT, Int.reduceLE, Int.reduceEq, Int.reduceAdd, Int.reduceSub, Int.reduceNeg, decide_true, decide_false, if_true, if_false, Bool.false_eq_true, eq_self, reduceIte, Bool.true_eq_false, decide_eq_true_eq, Bool.not_true, Bool.not_false, Bool.not_eq_true', decide_eq_false_iff_not, exists_eq_left', exists_eq_left, D.bl.injEq, true_and, and_true, not_true_eq_false, not_false_eq_true])
local macro_rules | `(tactic| walk_at "len") => `(tactic| (intro ds O R RE h; first | (obtain ⟨e, _⟩ := h; subst e; rfl) | (obtain ⟨_, e, _⟩ := h; subst e; rfl) | (obtain ⟨_, _, e, _⟩ := h; subst e; rfl) | (obtain ⟨_, _, _, e, _⟩ := h; subst e; rfl) | (obtain ⟨_, _, _, _, e, _⟩ := h; subst e; rfl) | (obtain ⟨_, _, _, _, _, e, _⟩ := h; subst e; rfl) | (obtain ⟨_, _, _, _, _, _, e, _⟩ := h; subst e; rfl) | (obtain ⟨_, _, _, _, _, _, _, e, _⟩ := h; subst e; rfl) | (obtain ⟨_, _, _, _, _, _, _, _, e, _⟩ := h; subst e; rfl) | (obtain ⟨_, _, _, _, _, _, _, _, _, e, _⟩ := h; subst e; rfl)))
local macro_rules | `(tactic| walk_at "kf1") => `(tactic| simp (config := { failIfUnchanged := false }) only [startD, ap_fiEnumT, asT1_t, ap_fKGet, asStr_s, ap_fKIn, ap_fKIx, ap_gAsgL, rUnl_l, ap_fiRng3, asR3_i, rSplitO_s, ap_fOrL, rOrL_l, ap_fLcK, ap_gForK, ap_fMaxD, rMaxD_l, rMaxL_l, ap_fCallXD, ap_gForE, asLE_l, ap_fFrz, ap_fDicO, ap_fDGet, ap_fDGet1, ap_fDGet2, ap_gDPut, ap_fIsiT, ap_gForR, rRep_l, isT_i, isT_s, isT_b, isT_n, isT_t, isT_l, ap_gIf, ap_gRet, ap_gNext, ap_gSet, ap_gAsg, ap_gPar, ap_gDrop, ap_gRetF, ap_gRetN, ap_gFor, ap_gSetIx, ap_gBreak, ap_fRev, ap_fiRevR, asIR_i, rRev_l, ap_fCallX, ap_gRaise, ap_gTry, ap_gTryAs, ap_gNever, ap_fEdic, ap_fTest, ap_fOp, ap_fVar, envGet_s, patGet_s, ap_fC, ap_fCB, ap_fCons, ap_fNil, ap_fCall, ap_fAnd, ap_fOr, ap_fNot, ap_fAndV, ap_fOrV, ap_fNotV, ap_fIf, ap_fTup, ap_fLst, ap_fLstO, ap_fChain, ap_fUn, ap_fBM, ap_fBM0, ap_fPool, rPool_i, ap_fSl, ap_fPart, ap_fNoPart, asI_i, rSl_l, ap_fiRng1, ap_fiRng2, ap_fiList, ap_fiTup, ap_fiStr, ap_fiEnum, ap_fiZip, ap_fiRev, asL_l, asT_t, asSg_s, asR1_i, asR2_i, asL1_l, asL2_l, ap_fLc, ap_fLcO, ap_fYes, wipeD, lcD, isi_i_int, isi_i_bool, isi_i_str, isi_i_tuple, isi_i_list, isi_i_dict, isi_b_int, isi_b_bool, isi_b_str, isi_b_tuple, isi_b_list, isi_b_dict, isi_s_int, isi_s_bool, isi_s_str, isi_s_tuple, isi_s_list, isi_s_dict, isi_t_int, isi_t_bool, isi_t_str, isi_t_tuple, isi_t_list, isi_t_dict, isi_l_int, isi_l_bool, isi_l_str, isi_l_tuple, isi_l_list, isi_l_dict, isi_n_int, isi_n_bool, isi_n_str, isi_n_tuple, isi_n_list, isi_n_dict, isi_d_int, isi_d_bool, isi_d_str, isi_d_tuple, isi_d_list, isi_d_dict,
  deref_tup, deref_lst, deref_int, deref_str, deref_bl, deref_non, deref_scr, rLt_i, rLt_s, rLe_i, rLe_s, rInts_i, rInts0_i, rAdd_i, rAdd_s, rAdd_l, rAdd_t, rCatO_l, rNeg_i, rLen_t, rLen_l, rLen_c, rLen_s, rMax_i, rMin_i, rInt_i, rInt_b, rDivmod_i, ap_gAug, rStr_i, rList_l, rList_t, rListO_l, rListO_t, rTup_l, rTup_t,
  rIx_t0, rIx_t1, rIx_t2, rIx_t3, rIx_l0, rIx_l1, rIx_l2, rIsN_x, isNon_t, isNon_n, isNon_i, isNon_s, isNon_l, rEq_i, rEq_b, rEq_i2, rEq_b2, rJoin_m, rSplit_s, tyOk_l, tyOk_s, patD_nm, patD_tp, patDs_nil, patDs_cons, Option.bind_some, notX, notX',
  List.map_cons, List.map_nil, List.length_cons, List.length_nil, List.cons_append, List.nil_append, List.append_nil, List.replicate, List.getElem?_cons_zero, List.getElem?_cons_succ, List.set_cons_zero, List.set_cons_succ, updO_same, updO_updO,
  Nat.reduceSub, Nat.reduceAdd, Nat.reduceLeDiff, Nat.zero_add, Int.cast_ofNat_Int, Int.natCast_zero, Int.natCast_one, Int.reduceLT, Int.reduceLE, Int.reduceEq, Int.reduceAdd, Int.reduceSub, Int.reduceNeg, decide_true, decide_false, if_true, if_false, Bool.false_eq_true, eq_self, reduceIte, Bool.true_eq_false, decide_eq_true_eq, Bool.not_true, Bool.not_false, Bool.not_eq_true', decide_eq_false_iff_not, exists_eq_left', exists_eq_left, D.bl.injEq, true_and, and_true, not_true_eq_false, not_false_eq_true])
section
variable {P : Program} {w : World} {K : PySem.W.Frag} {mg : Str → Option Value} {base : Heap}
local macro_rules | `(tactic| walk_at "tg") => `(tactic| simp (config := { failIfUnchanged := false }) only [te_name_take, te_name_give, te_name_pair, te_name_first, te_name_second, te_name_to, te_name_both, te_name_one, te_name_mark, te_name_name, te_name_thing, te_name_at, te_thing_take, te_thing_give, te_thing_pair, te_thing_first, te_thing_second, te_thing_to, te_thing_both, te_thing_one, te_thing_mark, te_thing_name, te_thing_thing, te_thing_at, te_take_take, te_take_give, te_take_pair, te_take_first, te_take_second, te_take_to, te_take_both, te_take_one, te_take_mark, te_take_name, te_take_thing, te_take_at, te_give_take, te_give_give, te_give_pair, te_give_first, te_give_second, te_give_to, te_give_both, te_give_one, te_give_mark, te_give_name, te_give_thing, te_give_at, te_pair_take, te_pair_give, te_pair_pair, te_pair_first, te_pair_second, te_pair_to, te_pair_both, te_pair_one, te_pair_mark, te_pair_name, te_pair_thing, te_pair_at, te_first_take, te_first_give, te_first_pair, te_first_first, te_first_second, te_first_to, te_first_both, te_first_one, te_first_mark, te_first_name, te_first_thing, te_first_at, te_second_take, te_second_give, te_second_pair, te_second_first, te_second_second, te_second_to, te_second_both, te_second_one, te_second_mark, te_second_name, te_second_thing, te_second_at, te_mark_take, te_mark_give, te_mark_pair, te_mark_first, te_mark_second, te_mark_to, te_mark_both, te_mark_one, te_mark_mark, te_mark_name, te_mark_thing, te_mark_at, te_one_take, te_one_give, te_one_pair, te_one_first, te_one_second, te_one_to, te_one_both, te_one_one, te_one_mark, te_one_name, te_one_thing, te_one_at, te_to_take, te_to_give, te_to_pair, te_to_first, te_to_second, te_to_to, te_to_both, te_to_one, te_to_mark, te_to_name, te_to_thing, te_to_at, te_both_take, te_both_give, te_both_pair, te_both_first, te_both_second, te_both_to, te_both_both, te_both_one, te_both_mark, te_both_name, te_both_thing, te_both_at, te_at_take, te_at_give, te_at_pair, te_at_first, te_at_second, te_at_to, te_at_both, te_at_one, te_at_mark, te_at_name, te_at_thing, te_at_at, ti4_name, ti4_thing, ti4_take, ti4_give, ti4_pair, ti4_first, ti4_second, ti2_name, ti2_thing, ti2_take, ti2_give, ti2_pair, ti2_first, ti2_second, szT_0, szT_1, szT_2, szT_3, szT_4, szT_5, szT_6, szT_7, szT_8, szT_9, szT_10, szT_11, szT_12, Bool.not_true, Bool.not_false, true_and])
theorem ok_pool {a : Addr} {fd : FuncData} {k : Nat} (N : Fn K mg "_law_pool" s__law_pool P__law_pool a fd) (m_len : mg "len" = none) : FnOk P w K mg base CX0 (k + 1) a fd P__law_pool (liftSp K spPool) := by
  refine fn_d (g := g__law_pool) N.F sc__law_pool (fun ds O R RE ⟨ns, k, e, _⟩ => by rw [e]; rfl) (der__law_pool m_len) ?_
  rintro ds O R RE ⟨ns, k, rfl, h0, h1, hR⟩
  unfold g__law_pool
  walk_at "kf"
  have c1 : CMul 104729 k := Or.inl ⟨by decide, by decide⟩
  have c2 : CMul (104729 * k) k := Or.inr ⟨by omega, by omega⟩
  have c3 : CPow 10 18 := ⟨by decide, by decide, by decide⟩
  have e18 : (10 : Int) ^ Int.toNat 18 = 1000000000000000000 := by decide
  split
  · obtain ⟨n, e1, _⟩ := atI_some (xs := ns) h0 (by assumption)
    simp only [rIx_c e1]
    walk_at "kf"
    refine ⟨c1, c2, poolNum n h0 h1, c3, ?_⟩
    rw [e18]
    split
    · exact ⟨(poolMod _).1, (poolMod _).2, hR⟩
    · exact ⟨by omega, (poolMod _).1, (poolMod _).2, hR⟩
  · refine ⟨c1, c2, poolNum 0 h0 h1, c3, (poolMod _).1, (poolMod _).2, hR⟩
theorem ok_take {a : Addr} {fd : FuncData} {k : Nat} (N : Fn K mg "_law_take" s__law_take P__law_take a fd) : FnOk P w K mg base CX0 (k + 1) a fd P__law_take (liftSp K spTake) := by
  refine fn_d (g := g__law_take) N.F sc__law_take (fun ds O R RE ⟨ns, k, e, _⟩ => by rw [e]; rfl) der__law_take ?_
  rintro ds O R RE ⟨p, m, rfl, hp, h0, h1, hR⟩
  unfold g__law_take
  walk_at "kf"
  simp only [rIx_p0 hp, rIx_p1 hp]
  intro x hx
  walk_at "kf"
  split
  · simp only [rIx_p0 hp]
    intro y hy
    walk_at "kf"
    refine ⟨h0, ?_⟩
    simp only [rIx_p0 hp]
    intro z hz
    walk_at "kf"
    refine ⟨⟨h0, h1⟩, ?_⟩
    simp only [rSet_p0 hp]
    exact ⟨Int.ediv_nonneg hz (by omega), hR _ (Int.emod_nonneg _ (by omega)) (Int.emod_lt_of_pos _ h0)⟩
  · simp only [rIx_p1 hp]
    intro y hy hy2
    walk_at "kf"
    refine ⟨Or.inr ⟨by decide, by decide⟩, ?_⟩
    simp only [rSet_p1 hp]
    refine ⟨poolMod _, ?_⟩
    walk_at "kf"
    simp only [rIx_p1 hp]
    intro z hz hz2
    intro u hu hu2
    walk_at "kf"
    exact ⟨Or.inl ⟨by omega, by omega⟩, ⟨by decide, by decide⟩, h0, hR _ (Int.emod_nonneg _ (by omega)) (Int.emod_lt_of_pos _ h0)⟩
/-- the law's own kinds: three words -/
def spLKind (n : Nat) : DSp := fun ds O R _ => ∃ (p : Addr) (l : Nat) (ms : List Str), ds = [.ref p, .int l, .lst (ms.map .str)] ∧ O p = some .pool ∧ 1 ≤ l ∧ l ≤ n ∧ l ≤ 1000 ∧ 1 ≤ ms.length ∧ ms.length ≤ 1000 ∧ ∀ k : Kd, k.leaves = l → k.over ms → R (dK k) O
theorem ok_lkind (T : Tx K mg) : ∀ n, FO__law_kind P w base T (n + 1) (spLKind n)
  | 0 => fnUp (none_left fun ds O R RE ⟨p, l, ms, _, _, h1, h2, _⟩ => by omega) (Nat.zero_le _)
  | n + 1 => by
    refine fnd__law_kind T (ok_take T.n__law_take) (ok_lkind T n) (by walk_at "len") ?_
    rintro ds O R RE ⟨p, l, ms, rfl, hp, h1, hn, h1000, hm1, hm2, hR⟩
    unfold g__law_kind
    walk_at "kf"
    by_cases hl : l = 1
    · subst hl
      walk_at "kf"
      refine take_of hp (by decide) (by decide) fun r hr0 hr1 => ?_
      walk_at "kf"
      split
      · exact ⟨sz_small (by decide), hR .one rfl trivial⟩
      · rw [List.length_map]
        refine take_of hp (by omega) (by omega) fun r hr0 hr1 => ?_
        obtain ⟨v, e1, e2⟩ := atI_some (xs := ms) hr0 hr1
        rw [rIx_l (by rw [atI_map, e1]; rfl)]
        exact ⟨sz_small (by decide), hR (.mk v) rfl e2⟩
    · rw [if_neg (by omega)]
      refine take_of hp (by omega) (by omega) fun r hr0 hr1 => ?_
      walk_at "kf"
      obtain ⟨f, hf⟩ : ∃ f : Nat, 1 + r = (f : Int) := ⟨(1 + r).toNat, by omega⟩
      rw [hf]
      refine ⟨sz_small (by decide), ?_⟩
      refine take_of hp (by decide) (by decide) fun r hr0 hr1 => ?_
      have h3 : r = 0 ∨ r = 1 ∨ r = 2 := by omega
      have fin : ∀ z : Str, (∀ k1 k2 : Kd, k1.leaves + k2.leaves = l → k1.over ms → k2.over ms → R (.tup [.str z, dK k1, dK k2]) O) →
          spLKind n [.ref p, .int f, .lst (ms.map .str)] O (fun x O1 => spLKind n [.ref p, .int ((l : Int) - f), .lst (ms.map .str)] O1 (fun x_1 O1 => 3 ≤ sizeLine ∧ R (.tup [.str z, x, x_1]) O1) X0) X0 := by
        intro z hz
        refine ⟨p, f, ms, rfl, hp, by omega, by omega, by omega, hm1, hm2, fun k1 hk1 ho1 => ?_⟩
        dsimp only
        rw [show (l : Int) - (f : Int) = ((l - f : Nat) : Int) by omega]
        refine ⟨p, l - f, ms, rfl, hp, by omega, by omega, by omega, hm1, hm2, fun k2 hk2 ho2 => ?_⟩
        exact ⟨sz_small (by decide), hz k1 k2 (by omega) ho1 ho2⟩
      have hto := fin "to" fun k1 k2 h o1 o2 => hR (.to k1 k2) (by simp only [Kd.leaves]; omega) ⟨o1, o2⟩
      have hbo := fin "both" fun k1 k2 h o1 o2 => hR (.both k1 k2) (by simp only [Kd.leaves]; omega) ⟨o1, o2⟩
      rcases h3 with rfl | rfl | rfl <;> walk_at "kf" <;> first | exact hto | exact hbo
theorem gIf_T {c : FT} {g u : GS} {R : DEnds} {ρ : DEnv} {O : Ow} (h : ∀ Q : Bool → Ow → Prop, c ρ O Q = Q true O) : gIf c g u R ρ O = g R ρ O := by rw [ap_gIf, h]; simp
theorem gIf_F {c : FT} {g u : GS} {R : DEnds} {ρ : DEnv} {O : Ow} (h : ∀ Q : Bool → Ow → Prop, c ρ O Q = Q false O) : gIf c g u R ρ O = u R ρ O := by rw [ap_gIf, h]; simp
def spSeen : DSp := fun ds O R _ => ∃ kn : List (Str × Kd), ds = [.lst (kn.map kv)] ∧ RowU kn ∧ ∀ ys : List (Str × Kd), (∀ y ∈ ys, envOf kn y.1 = some y.2) → ys.length ≤ 8 → R (.lst (ys.map kv)) O
theorem ok_seen (T : Tx K mg) : FO__law_seen P w base T 1 spSeen := by
  refine fndG__law_seen T (by walk_at "len") ?_
  rintro ds O R RE ⟨kn, rfl, hk, hR⟩
  unfold g__law_seen
  refine gSeq_step ?_
  walk_at "kf1"
  intro p hp
  walk_at "kf1"
  refine gSeq_step ?_
  walk_at "kf1"
  refine forA_ix kv (fun pre _ ρ O' => ∃ kvs ts x2 x3, O' = updO O p (.dic kvs) ∧ DInvU pre kvs ts ∧ ρ = [some (.lst (kn.map kv)), some (.ref p), x2, x3]) kn [] _ _ ⟨_, _, _, _, rfl, DInvU.nil, rfl⟩ ?_ ?_
  · rintro ρ O' ⟨kvs, ts, x2, x3, rfl, hd, rfl⟩
    rw [List.nil_append] at hd
    try dsimp only
    walk_at "kf1"
    rw [asDc_r updO_same]
    intro o
    rw [keysD_strs hd.ks, updO_updO]
    have hl := hd.len
    have hy : ∀ y ∈ ts, ∃ k, envOf kn y = some k := fun y h => hd.has h
    refine lcK_map updO_same D.str (fun y => kv (y, (envOf kn y).getD .one)) ts _ _ (sz_small (by simp only [List.length_nil]; omega)) ?_ ?_
    · intro y hym Q' hQ'
      obtain ⟨k, e⟩ := hy y hym
      walk_at "kf1"
      have dl : dicAt (updO O p (.dicL kvs o)) p = some kvs := by simp [dicAt, updO_same]
      simp only [rDGet, rKey, keyOf, dl, hd.vl, e, Option.map_some]
      rw [e] at hQ'
      walk_at "tg"
      exact hQ'
    · rw [List.nil_append, updO_updO]
      refine VG.up hp ?_
      have := hR (ts.map fun y => (y, (envOf kn y).getD .one)) (fun q hq => by
        obtain ⟨y, h1, rfl⟩ := List.mem_map.mp hq
        obtain ⟨k, e⟩ := hy y h1
        simp only [e, Option.getD_some]) (by rw [List.length_map]; exact hl.1)
      rw [List.map_map] at this
      exact this
  · rintro pre q rest e ρ O' ⟨kvs, ts, x2, x3, rfl, hd, rfl⟩ N hN
    rw [List.nil_append] at e
    have hq : q ∈ kn := by rw [e]; simp
    obtain ⟨ts', hd'⟩ := hd.put (k := q.2) (hk.nm q hq).1
    have hl := hd.len
    walk_at "kf1"
    rw [rDPut_s updO_same]
    refine ⟨Nat.lt_of_lt_of_le (show kvs.length < 9 by omega) (by decide), ?_⟩
    rw [updO_updO]
    exact hN _ _ ⟨_, _, _, _, rfl, hd', rfl⟩
abbrev dMvs (m : List Mv) : D := .lst (m.map dMv)
def spUses (n : Nat) : DSp := fun ds O R _ => ∃ (k g : Kd) (x : Str), ds = [dK k, dK g, .str x] ∧ k.depth < n ∧ k.ok = true ∧ g.ok = true ∧ k.depth ≤ 100 ∧ k.leaves ≤ 100 ∧ ∀ ms : List (List Mv), (∀ m ∈ ms, Us k m g) → ms.length + 1 ≤ 2 * k.leaves → R (.lst (ms.map dMvs)) O
theorem ok_uses (T : Tx K mg) : ∀ n, FO__law_uses P w base T (n + 1) (spUses n)
  | 0 => fnUp (none_left fun ds O R RE ⟨k, g, x, _, h, _⟩ => by omega) (Nat.zero_le _)
  | n + 1 => by
    refine fndG__law_uses T (ok_uses T n) (by walk_at "len") ?_
    rintro ds O R RE ⟨k, g, x, rfl, hn, hk, hg, hd, hl, hR⟩
    unfold g__law_uses
    refine gSeq_step ?_
    walk_at "kf1"
    walk_at "tg"
    intro f hf
    have cat : ∀ (c : Kd) (pre : Mv) (y : D) (ms0 : List (List Mv)) (O1 : Ow) (f1 : Addr) (Q : VD) (ρ : DEnv) (fc : FE) (fm : FE), y = dMv pre → c.depth < n → c.ok = true → c.depth ≤ 100 → c.leaves ≤ 100 → ms0.length ≤ 400 → O1 f1 = some (.lst (ms0.map dMvs)) →
        (∀ ms : List (List Mv), (∀ m ∈ ms, Us c m g) → ms.length + 1 ≤ 2 * c.leaves → ∀ p, O1 p = none → Q (.ref p) (updO O1 p (.lst ((ms0 ++ ms.map (pre :: ·)).map dMvs)))) →
        (∀ (Q' : VD) (O' : Ow), fc ρ O' Q' = Q' (dK c) O') → (∀ (z : D) (Q' : VD) (O' : Ow), fm ((wipeD ρ [4]).set 4 (some z)) O' Q' = Q' y O') → ρ[3]? = some (some (.ref f1)) → ρ[1]? = some (some (dK g)) → ρ[2]? = some (some (.str x)) → ρ.length = 5 →
        fOp rCatO (fVar 3) (fLc (fiList (fCall (spUses n) (fCons fc (fCons (fVar 1) (fCons (fVar 2) fNil))))) (.nm 4) fYes (fOp rAddD (fLst (fCons fm fNil)) (fVar 4)) [4]) ρ O1 Q := by
      intro c pre y ms0 O1 f1 Q ρ fc fm hy hcn hc hcd hcl hm0 hO1 hQ efc efm e3 e1 e2 hlen
      rw [ap_fOp, ap_fVar, e3, envGet_s, ap_fLc, ap_fiList, ap_fCall, ap_fCons, efc, ap_fCons, ap_fVar, e1, envGet_s, ap_fCons, ap_fVar, e2, envGet_s, ap_fNil]
      refine ⟨c, g, x, rfl, hcn, hc, hg, hcd, hcl, fun ms hms hmsl => ?_⟩
      dsimp only
      rw [asL_l]
      refine lcA_map dMvs (fun m => dMvs (pre :: m)) ms _ _ (sz_21 (by simp only [List.length_nil]; omega)) ?_ ?_
      · intro m hm Q' hQ'
        have := us_len c m g (hms m hm)
        rw [patD_nm, patGet_s, ap_fOp, ap_fLst, ap_fCons, efm, ap_fNil]
        refine ⟨sz_small (by simp), ?_⟩
        rw [ap_fVar, List.getElem?_set_self (by simp [wipeD, hlen]), envGet_s, rAdd_l]
        refine ⟨sz_21 (by simp only [List.length_cons, List.length_nil, List.length_map]; omega), ?_⟩
        rw [hy]
        exact hQ'
      · rw [List.nil_append]
        have e : D.lst (ms.map fun m => dMvs (pre :: m)) = .lst ((ms.map (pre :: ·)).map dMvs) := by rw [List.map_map]; rfl
        rw [e]
        show rCatO (.ref f1) _ O1 Q
        simp only [rCatO, deref, hO1]
        refine ⟨sz_21 (by simp only [List.length_map]; omega), fun p hp => ?_⟩
        have := hQ ms hms hmsl p hp
        rw [List.map_append] at this
        exact this
    have ret : ∀ (ms : List (List Mv)) (O1 : Ow) (f1 : Addr), (∀ m ∈ ms, Us k m g) → ms.length + 1 ≤ 2 * k.leaves → Sub O (delO O1 f1) → VG R (.lst (ms.map dMvs)) (delO O1 f1) := fun ms O1 f1 h1 h2 h4 => ⟨O, h4, hR ms h1 h2⟩
    have lv : 1 ≤ k.leaves := by have := k.depth_lt; omega
    obtain ⟨ms0, h0, h0l, e0⟩ : ∃ ms0 : List (List Mv), (∀ m ∈ ms0, Us k m g) ∧ ms0.length ≤ 1 ∧ (if k = g then [([] : List Mv)] else []) = ms0 := by
      refine ⟨_, ?_, ?_, rfl⟩
      · intro m hm
        split at hm
        · rw [List.mem_singleton.mp hm]; rename_i e; subst e; cases k <;> rfl
        · cases hm
      · split <;> simp
    have rest : ∀ x4 : Option D, (gSeq (gIf (fTest (fOp (rEqD false) (fOp rIxD (fVar 0) (fC (.int 0))) (fC (.str "to")))) (gSet (fOp rCatO (fVar 3) (fLc (fiList (fCall (spUses n) (fCons (fOp rIxD (fVar 0) (fC (.int 2))) (fCons (fVar 1) (fCons (fVar 2) fNil))))) (.nm 4) fYes (fOp rAddD (fLst (fCons (fOp rIxD (fVar 0) (fC (.int 1))) fNil)) (fVar 4)) [4])) 3) gNext) (gSeq (gIf (fTest (fOp (rEqD false) (fOp rIxD (fVar 0) (fC (.int 0))) (fC (.str "both")))) (gSeq (gSet (fOp rCatO (fVar 3) (fLc (fiList (fCall (spUses n) (fCons (fOp rIxD (fVar 0) (fC (.int 1))) (fCons (fVar 1) (fCons (fVar 2) fNil))))) (.nm 4) fYes (fOp rAddD (fLst (fCons (fC (.int 1)) fNil)) (fVar 4)) [4])) 3) (gSet (fOp rCatO (fVar 3) (fLc (fiList (fCall (spUses n) (fCons (fOp rIxD (fVar 0) (fC (.int 2))) (fCons (fVar 1) (fCons (fVar 2) fNil))))) (.nm 4) fYes (fOp rAddD (fLst (fCons (fC (.int 2)) fNil)) (fVar 4)) [4])) 3)) gNext) (gRetF (fVar 3)))) { nx := fun _ O' => VG R .non O', rt := VG R } [some (dK k), some (dK g), some (.str x), some (.ref f), x4] (updO O f (.lst (ms0.map dMvs))) := by
      intro x4
      have sub0 : Sub O (delO (updO O f (.lst (ms0.map dMvs))) f) := by rw [delO_updO hf]; exact Sub.refl _
      have subN : ∀ (O1 : Ow) (f1 : Addr) (c : Cell), Sub O O1 → O1 f1 = none → Sub O (delO (updO O1 f1 c) f1) := fun O1 f1 c s h => by rw [delO_updO h]; exact s
      have so : Sub O (updO O f (.lst (ms0.map dMvs))) := sub_upd hf
      cases k with
      | mk m =>
        refine gSeq_step ?_
        simp only [dK]
        walk_at "kf1"; walk_at "tg"; walk_at "kf1"
        refine gSeq_step ?_
        walk_at "kf1"; walk_at "tg"; walk_at "kf1"
        exact ret ms0 _ f h0 (by omega) sub0
      | one =>
        refine gSeq_step ?_
        simp only [dK]
        walk_at "kf1"; walk_at "tg"; walk_at "kf1"
        refine gSeq_step ?_
        walk_at "kf1"; walk_at "tg"; walk_at "kf1"
        exact ret ms0 _ f h0 (by omega) sub0
      | to a b =>
        simp only [Kd.depth, Kd.leaves, Kd.ok, Bool.and_eq_true] at hn hd hl hk lv
        refine gSeq_step ?_
        rw [gIf_T (fun Q => by simp only [dK]; walk_at "kf1"; walk_at "tg"; walk_at "kf1"), ap_gSet]
        refine cat b (.k a) (dK a) ms0 _ f _ _ _ _ rfl (by omega) hk.2 (by omega) (by omega) (by omega) updO_same ?_ (fun Q' O' => ?_) (fun z Q' O' => ?_) rfl rfl rfl rfl
        · intro ms hms hmsl p hp
          try dsimp only
          refine gSeq_step ?_
          simp only [dK]
          walk_at "kf1"; walk_at "tg"; walk_at "kf1"
          refine ret (ms0 ++ ms.map (Mv.k a :: ·)) _ p ?_ ?_ (subN _ p _ so hp)
          · intro m hm
            rcases List.mem_append.mp hm with hm | hm
            · exact h0 m hm
            · obtain ⟨m', h1, rfl⟩ := List.mem_map.mp hm
              exact ⟨rfl, hms m' h1⟩
          · have ha : 1 ≤ a.leaves := by have := a.depth_lt; omega
            simp only [List.length_append, List.length_map, Kd.leaves]; omega
        · simp only [dK]; walk_at "kf1"
        · simp only [wipeD, dK]; walk_at "kf1"
      | both a b =>
        simp only [Kd.depth, Kd.leaves, Kd.ok, Bool.and_eq_true] at hn hd hl hk lv
        have ha : 1 ≤ a.leaves := by have := a.depth_lt; omega
        have hb : 1 ≤ b.leaves := by have := b.depth_lt; omega
        refine gSeq_step ?_
        rw [gIf_F (fun Q => by simp only [dK]; walk_at "kf1"; walk_at "tg"; walk_at "kf1")]
        walk_at "kf1"
        refine gSeq_step ?_
        rw [gIf_T (fun Q => by simp only [dK]; walk_at "kf1"; walk_at "tg"; walk_at "kf1")]
        refine gSeq_step ?_
        rw [ap_gSet]
        refine cat a .one (.int 1) ms0 _ f _ _ _ _ rfl (by omega) hk.1 (by omega) (by omega) (by omega) updO_same ?_ (fun Q' O' => ?_) (fun z Q' O' => ?_) rfl rfl rfl rfl
        · intro ms hms hmsl p hp
          have s1 : Sub O (updO (updO O f (.lst (ms0.map dMvs))) p (.lst ((ms0 ++ ms.map (Mv.one :: ·)).map dMvs))) := so.trans (sub_upd hp)
          try dsimp only
          rw [ap_gSet]
          refine cat b .two (.int 2) (ms0 ++ ms.map (Mv.one :: ·)) _ p _ _ _ _ rfl (by omega) hk.2 (by omega) (by omega) (by simp only [List.length_append, List.length_map]; omega) updO_same ?_ (fun Q' O' => ?_) (fun z Q' O' => ?_) rfl rfl rfl rfl
          · intro ms2 hms2 hmsl2 p2 hp2
            try dsimp only
            walk_at "kf1"
            refine ret (ms0 ++ ms.map (Mv.one :: ·) ++ ms2.map (Mv.two :: ·)) _ p2 ?_ ?_ (subN _ p2 _ s1 hp2)
            · intro m hm
              rcases List.mem_append.mp hm with hm | hm
              · rcases List.mem_append.mp hm with hm | hm
                · exact h0 m hm
                · obtain ⟨m', h1, rfl⟩ := List.mem_map.mp hm
                  exact hms m' h1
              · obtain ⟨m', h1, rfl⟩ := List.mem_map.mp hm
                exact hms2 m' h1
            · simp only [List.length_append, List.length_map, Kd.leaves]; omega
          · simp only [dK]; walk_at "kf1"
          · simp only [wipeD, dK]; walk_at "kf1"
        · simp only [dK]; walk_at "kf1"
        · simp only [wipeD, dK]; walk_at "kf1"
    refine gSeq_step ?_
    walk_at "kf1"
    rw [rEq_K hk hg (by omega)]
    by_cases c : k = g
    · rw [if_pos c] at e0
      simp only [c, decide_true, Bool.false_xor]
      walk_at "kf1"
      refine ⟨tyOk_r updO_same, ?_⟩
      walk_at "tg"
      rw [rApp_r updO_same]
      refine ⟨Nat.lt_of_lt_of_le (show ([] : List D).length < 1 by simp) (by decide), ?_⟩
      rw [updO_updO]
      have := rest none
      rw [← e0] at this
      rw [c] at this
      exact this
    · rw [if_neg c] at e0
      simp only [c, decide_false, Bool.false_xor]
      walk_at "kf1"
      have := rest none
      rw [← e0] at this
      exact this
end
end Kf
namespace Kf
open PySem PySem.Spec L2
open PyProof.Rows hiding St
local macro_rules | `(tactic| walk_at "kf") => `(tactic| simp (config := { failIfUnchanged := false }) only [startD, ap_fiEnumT, asT1_t, ap_fKGet, asStr_s, ap_fKIn, ap_fKIx, ap_gAsgL, rUnl_l, ap_fiRng3, asR3_i, rSplitO_s, ap_fOrL, rOrL_l, ap_fLcK, ap_gForK, ap_fMaxD, rMaxD_l, rMaxL_l, ap_fCallXD, ap_gForE, asLE_l, ap_fFrz, ap_fDicO, ap_fDGet, ap_fDGet1, ap_fDGet2, ap_gDPut, ap_fIsiT, ap_gForR, rRep_l, isT_i, isT_s, isT_b, isT_n, isT_t, isT_l, ap_gSeq, ap_gIf, ap_gRet, ap_gNext, ap_gSet, ap_gAsg, ap_gPar, ap_gDrop, ap_gRetF, ap_gRetN, ap_gFor, ap_gSetIx, ap_gBreak, ap_fRev, ap_fiRevR, asIR_i, rRev_l, ap_fCallX, ap_gRaise, ap_gTry, ap_gTryAs, ap_gNever, ap_fEdic, ap_fTest, ap_fOp, ap_fVar, envGet_s, patGet_s, ap_fC, ap_fCB, ap_fCons, ap_fNil, ap_fCall, ap_fAnd, ap_fOr, ap_fNot, ap_fAndV, ap_fOrV, ap_fNotV, ap_fIf, ap_fTup, ap_fLst, ap_fLstO, ap_fChain, ap_fUn, ap_fBM, ap_fBM0, ap_fPool, rPool_i, ap_fSl, ap_fPart, ap_fNoPart, asI_i, rSl_l, ap_fiRng1, ap_fiRng2, ap_fiList, ap_fiTup, ap_fiStr, ap_fiEnum, ap_fiZip, ap_fiRev, asL_l, asT_t, asSg_s, asR1_i, asR2_i, asL1_l, asL2_l, ap_fLc, ap_fLcO, ap_fYes, wipeD, lcD, isi_i_int, isi_i_bool, isi_i_str, isi_i_tuple, isi_i_list, isi_i_dict, isi_b_int, isi_b_bool, isi_b_str, isi_b_tuple, isi_b_list, isi_b_dict, isi_s_int, isi_s_bool, isi_s_str, isi_s_tuple, isi_s_list, isi_s_dict, isi_t_int, isi_t_bool, isi_t_str, isi_t_tuple, isi_t_list, isi_t_dict, isi_l_int, isi_l_bool, isi_l_str, isi_l_tuple, isi_l_list, isi_l_dict, isi_n_int, isi_n_bool, isi_n_str, isi_n_tuple, isi_n_list, isi_n_dict, isi_d_int, isi_d_bool, isi_d_str, isi_d_tuple, isi_d_list, isi_d_dict,
  deref_tup, deref_lst, deref_int, deref_str, deref_bl, deref_non, deref_scr, rLt_i, rLt_s, rLe_i, rLe_s, rInts_i, rInts0_i, rAdd_i, rAdd_s, rAdd_l, rAdd_t, rCatO_l, rNeg_i, rLen_t, rLen_l, rLen_c, rLen_s, rMax_i, rMin_i, rInt_i, rInt_b, rDivmod_i, ap_gAug, rStr_i, rList_l, rList_t, rListO_l, rListO_t, rTup_l, rTup_t,
  rIx_t0, rIx_t1, rIx_t2, rIx_t3, rIx_l0, rIx_l1, rIx_l2, rIsN_x, isNon_t, isNon_n, isNon_i, isNon_s, isNon_l, rEq_i, rEq_b, rEq_i2, rEq_b2, rJoin_m, rSplit_s, tyOk_l, tyOk_s, patD_nm, patD_tp, patDs_nil, patDs_cons, Option.bind_some, notX, notX',
  List.map_cons, List.map_nil, List.length_cons, List.length_nil, List.cons_append, List.nil_append, List.append_nil, List.replicate, List.getElem?_cons_zero, List.getElem?_cons_succ, List.set_cons_zero, List.set_cons_succ, updO_same, updO_updO,
  Nat.reduceSub, Nat.reduceAdd, Nat.reduceLeDiff, Nat.zero_add, Int.cast_ofNat_Int, Int.natCast_zero, Int.natCast_one, Int.reduceLT, Int.reduceLE, Int.reduceEq, Int.reduceAdd, Int.reduceSub, Int.reduceNeg, decide_true, decide_false, if_true, if_false, Bool.false_eq_true, eq_self, reduceIte, Bool.true_eq_false, decide_eq_true_eq, Bool.not_true, Bool.not_false, Bool.not_eq_true', decide_eq_false_iff_not, exists_eq_left', exists_eq_left, D.bl.injEq, true_and, and_true, not_true_eq_false, not_false_eq_true])
local macro_rules | `(tactic| walk_at "len") => `(tactic| (intro ds O R RE h; first | (obtain ⟨e, _⟩ := h; subst e; rfl) | (obtain ⟨_, e, _⟩ := h; subst e; rfl) | (obtain ⟨_, _, e, _⟩ := h; subst e; rfl) | (obtain ⟨_, _, _, e, _⟩ := h; subst e; rfl) | (obtain ⟨_, _, _, _, e, _⟩ := h; subst e; rfl) | (obtain ⟨_, _, _, _, _, e, _⟩ := h; subst e; rfl) | (obtain ⟨_, _, _, _, _, _, e, _⟩ := h; subst e; rfl) | (obtain ⟨_, _, _, _, _, _, _, e, _⟩ := h; subst e; rfl) | (obtain ⟨_, _, _, _, _, _, _, _, e, _⟩ := h; subst e; rfl) | (obtain ⟨_, _, _, _, _, _, _, _, _, e, _⟩ := h; subst e; rfl)))
local macro_rules | `(tactic| walk_at "kf1") => `(tactic| simp (config := { failIfUnchanged := false }) only [startD, ap_fiEnumT, asT1_t, ap_fKGet, asStr_s, ap_fKIn, ap_fKIx, ap_gAsgL, rUnl_l, ap_fiRng3, asR3_i, rSplitO_s, ap_fOrL, rOrL_l, ap_fLcK, ap_gForK, ap_fMaxD, rMaxD_l, rMaxL_l, ap_fCallXD, ap_gForE, asLE_l, ap_fFrz, ap_fDicO, ap_fDGet, ap_fDGet1, ap_fDGet2, ap_gDPut, ap_fIsiT, ap_gForR, rRep_l, isT_i, isT_s, isT_b, isT_n, isT_t, isT_l, ap_gIf, ap_gRet, ap_gNext, ap_gSet, ap_gAsg, ap_gPar, ap_gDrop, ap_gRetF, ap_gRetN, ap_gFor, ap_gSetIx, ap_gBreak, ap_fRev, ap_fiRevR, asIR_i, rRev_l, ap_fCallX, ap_gRaise, ap_gTry, ap_gTryAs, ap_gNever, ap_fEdic, ap_fTest, ap_fOp, ap_fVar, envGet_s, patGet_s, ap_fC, ap_fCB, ap_fCons, ap_fNil, ap_fCall, ap_fAnd, ap_fOr, ap_fNot, ap_fAndV, ap_fOrV, ap_fNotV, ap_fIf, ap_fTup, ap_fLst, ap_fLstO, ap_fChain, ap_fUn, ap_fBM, ap_fBM0, ap_fPool, rPool_i, ap_fSl, ap_fPart, ap_fNoPart, asI_i, rSl_l, ap_fiRng1, ap_fiRng2, ap_fiList, ap_fiTup, ap_fiStr, ap_fiEnum, ap_fiZip, ap_fiRev, asL_l, asT_t, asSg_s, asR1_i, asR2_i, asL1_l, asL2_l, ap_fLc, ap_fLcO, ap_fYes, wipeD, lcD, isi_i_int, isi_i_bool, isi_i_str, isi_i_tuple, isi_i_list, isi_i_dict, isi_b_int, isi_b_bool, isi_b_str, isi_b_tuple, isi_b_list, isi_b_dict, isi_s_int, isi_s_bool, isi_s_str, isi_s_tuple, isi_s_list, isi_s_dict, isi_t_int, isi_t_bool, isi_t_str, isi_t_tuple, isi_t_list, isi_t_dict, isi_l_int, isi_l_bool, isi_l_str, isi_l_tuple, isi_l_list, isi_l_dict, isi_n_int, isi_n_bool, isi_n_str, isi_n_tuple, isi_n_list, isi_n_dict, isi_d_int, isi_d_bool, isi_d_str, isi_d_tuple, isi_d_list, isi_d_dict,
  deref_tup, deref_lst, deref_int, deref_str, deref_bl, deref_non, deref_scr, rLt_i, rLt_s, rLe_i, rLe_s, rInts_i, rInts0_i, rAdd_i, rAdd_s, rAdd_l, rAdd_t, rCatO_l, rNeg_i, rLen_t, rLen_l, rLen_c, rLen_s, rMax_i, rMin_i, rInt_i, rInt_b, rDivmod_i, ap_gAug, rStr_i, rList_l, rList_t, rListO_l, rListO_t, rTup_l, rTup_t,
  rIx_t0, rIx_t1, rIx_t2, rIx_t3, rIx_l0, rIx_l1, rIx_l2, rIsN_x, isNon_t, isNon_n, isNon_i, isNon_s, isNon_l, rEq_i, rEq_b, rEq_i2, rEq_b2, rJoin_m, rSplit_s, tyOk_l, tyOk_s, patD_nm, patD_tp, patDs_nil, patDs_cons, Option.bind_some, notX, notX',
  List.map_cons, List.map_nil, List.length_cons, List.length_nil, List.cons_append, List.nil_append, List.append_nil, List.replicate, List.getElem?_cons_zero, List.getElem?_cons_succ, List.set_cons_zero, List.set_cons_succ, updO_same, updO_updO,
  Nat.reduceSub, Nat.reduceAdd, Nat.reduceLeDiff, Nat.zero_add, Int.cast_ofNat_Int, Int.natCast_zero, Int.natCast_one, Int.reduceLT, Int.reduceLE, Int.reduceEq, Int.reduceAdd, Int.reduceSub, Int.reduceNeg, decide_true, decide_false, if_true, if_false, Bool.false_eq_true, eq_self, reduceIte, Bool.true_eq_false, decide_eq_true_eq, Bool.not_true, Bool.not_false, Bool.not_eq_true', decide_eq_false_iff_not, exists_eq_left', exists_eq_left, D.bl.injEq, true_and, and_true, not_true_eq_false, not_false_eq_true])
section
variable {P : Program} {w : World} {K : PySem.W.Frag} {mg : Str → Option Value} {base : Heap}
local macro_rules | `(tactic| walk_at "tg") => `(tactic| simp (config := { failIfUnchanged := false }) only [te_name_take, te_name_give, te_name_pair, te_name_first, te_name_second, te_name_to, te_name_both, te_name_one, te_name_mark, te_name_name, te_name_thing, te_name_at, te_thing_take, te_thing_give, te_thing_pair, te_thing_first, te_thing_second, te_thing_to, te_thing_both, te_thing_one, te_thing_mark, te_thing_name, te_thing_thing, te_thing_at, te_take_take, te_take_give, te_take_pair, te_take_first, te_take_second, te_take_to, te_take_both, te_take_one, te_take_mark, te_take_name, te_take_thing, te_take_at, te_give_take, te_give_give, te_give_pair, te_give_first, te_give_second, te_give_to, te_give_both, te_give_one, te_give_mark, te_give_name, te_give_thing, te_give_at, te_pair_take, te_pair_give, te_pair_pair, te_pair_first, te_pair_second, te_pair_to, te_pair_both, te_pair_one, te_pair_mark, te_pair_name, te_pair_thing, te_pair_at, te_first_take, te_first_give, te_first_pair, te_first_first, te_first_second, te_first_to, te_first_both, te_first_one, te_first_mark, te_first_name, te_first_thing, te_first_at, te_second_take, te_second_give, te_second_pair, te_second_first, te_second_second, te_second_to, te_second_both, te_second_one, te_second_mark, te_second_name, te_second_thing, te_second_at, te_mark_take, te_mark_give, te_mark_pair, te_mark_first, te_mark_second, te_mark_to, te_mark_both, te_mark_one, te_mark_mark, te_mark_name, te_mark_thing, te_mark_at, te_one_take, te_one_give, te_one_pair, te_one_first, te_one_second, te_one_to, te_one_both, te_one_one, te_one_mark, te_one_name, te_one_thing, te_one_at, te_to_take, te_to_give, te_to_pair, te_to_first, te_to_second, te_to_to, te_to_both, te_to_one, te_to_mark, te_to_name, te_to_thing, te_to_at, te_both_take, te_both_give, te_both_pair, te_both_first, te_both_second, te_both_to, te_both_both, te_both_one, te_both_mark, te_both_name, te_both_thing, te_both_at, te_at_take, te_at_give, te_at_pair, te_at_first, te_at_second, te_at_to, te_at_both, te_at_one, te_at_mark, te_at_name, te_at_thing, te_at_at, ti4_name, ti4_thing, ti4_take, ti4_give, ti4_pair, ti4_first, ti4_second, ti2_name, ti2_thing, ti2_take, ti2_give, ti2_pair, ti2_first, ti2_second, szT_0, szT_1, szT_2, szT_3, szT_4, szT_5, szT_6, szT_7, szT_8, szT_9, szT_10, szT_11, szT_12, Bool.not_true, Bool.not_false, true_and])
def hU (r : Int) (k : Kd) : Nat := 8 * r.toNat + k.leaves
def mU (r : Int) (k : Kd) : Nat := 6 * r.toNat + k.leaves
def spProgU (n : Nat) : DSp := fun ds O R _ => ∃ (pa : Addr) (kn : List (Str × Kd)) (k : Kd) (r : Int), ds = [.ref pa, .lst (kn.map kv), dK k, .int r] ∧ O pa = some .pool ∧ RowU kn ∧ k.over AB ∧ k.leaves ≤ 4 ∧ 0 ≤ r ∧ r ≤ 100 ∧ mU r k < n ∧ kn.length + mU r k ≤ 900 ∧
  ∀ p : Pg, p.hgt ≤ hU r k → hasU (envOf kn) p k → R (dP p) O
def dPn : Option Pg → D
  | some p => dP p
  | none => .non
def spUsed (n : Nat) : DSp := fun ds O R _ => ∃ (pa : Addr) (kn : List (Str × Kd)) (k : Kd) (r : Int), ds = [.ref pa, .lst (kn.map kv), dK k, .int r] ∧ O pa = some .pool ∧ RowU kn ∧ k.over AB ∧ k.leaves ≤ 4 ∧ 0 < r ∧ r ≤ 100 ∧ mU r k < n ∧ kn.length + mU r k ≤ 900 ∧
  ∀ o : Option Pg, (∀ p, o = some p → p.hgt ≤ hU r k ∧ hasU (envOf kn) p k) → R (dPn o) O
abbrev dUs (u : Str × List Mv) : D := .tup [.str u.1, dMvs u.2]
theorem py_mv {m : List Mv} (h : ∀ c, Mv.k c ∈ m → c.ok = true) : isPys (m.map dMv) = true := by
  rw [isPys_all, List.all_eq_true]
  intro d hd
  obtain ⟨z, hz, rfl⟩ := List.mem_map.mp hd
  cases z with
  | k c => simp only [dMv, isPy_dK]; exact h c hz
  | one => simp [dMv, isPy]
  | two => simp [dMv, isPy]
theorem lvp (k : Kd) : 1 ≤ k.leaves := by have := k.depth_lt; omega
theorem over_k {k : Kd} (h : k.over AB) : k.ok = true := over_ok ab_ok k h
theorem ok_used (T : Tx K mg) (n : Nat) (ih : FO__law_program P w base T (2 * n + 8) (spProgU n)) : FO__law_used P w base T (2 * n + 9) (spUsed (n + 1)) := by
  refine fnd__law_used T (fnUp (ok_seen T) (by omega)) (fnUp (ok_uses T 5) (by omega)) (ok_take T.n__law_take) ih (by walk_at "len") ?_
  rintro ds O R RE ⟨pa, kn, g, r, rfl, hp, hk, ho, hl, hr, hr100, hn, hkl, hR⟩
  have hg := over_k ho
  have lg := lvp g
  unfold mU at hn hkl
  unfold g__law_used
  refine gSeq_step ?_
  walk_at "kf1"
  walk_at "tg"
  refine gSeq_step ?_
  walk_at "kf1"
  refine ⟨kn, rfl, hk, fun ys hys hyl => ?_⟩
  try dsimp only
  walk_at "kf1"
  have kd_of : ∀ (x : Str) (k : Kd), envOf kn x = some k → x ∈ UN ∧ k.over AB ∧ k.leaves ≤ 4 := fun x k e => hk.nm (x, k) (envOf_mem e)
  refine forA_ix kv (fun pre _ ρ O' => O' = O ∧ ∃ (us : List (Str × List Mv)) (x5 x6 x7 x8 x9 : Option D), ρ = [some (.ref pa), some (.lst (kn.map kv)), some (dK g), some (.int r), some (.lst (us.map dUs)), x5, x6, x7, x8, x9] ∧ us.length ≤ 8 * pre.length ∧ ∀ u ∈ us, ∃ k, envOf kn u.1 = some k ∧ Us k u.2 g) ys [] _ _ ⟨rfl, [], _, _, _, _, _, rfl, by simp, fun u h => nomatch h⟩ ?_ ?_
  · rintro ρ O' ⟨rfl, us, x5, x6, x7, x8, x9, rfl, hul, hus⟩
    rw [List.nil_append] at hul
    have hpy : isPys (us.map dUs) = true := by
      rw [isPys_all, List.all_eq_true]
      intro d hd
      obtain ⟨u, hu, rfl⟩ := List.mem_map.mp hd
      obtain ⟨k, e1, e2⟩ := hus u hu
      obtain ⟨a1, a2, a3⟩ := kd_of _ _ e1
      have : isPys (u.2.map dMv) = true := py_mv fun c hc => over_k (us_kd k u.2 g e2 a2 c hc).1
      simp only [dUs, dMvs, isPy, isPys, this, un_ok _ a1, Bool.and_self]
    try dsimp only
    refine gSeq_step ?_
    walk_at "kf1"
    walk_at "tg"
    rw [rEq_nilA (xs := us.map dUs) rfl hpy]
    cases us with
    | nil =>
      simp only [List.map_nil, List.isEmpty_nil, Bool.false_xor]
      walk_at "kf1"
      exact hR none fun p h => nomatch h
    | cons u0 ur =>
      simp only [List.map_cons, List.isEmpty_cons, Bool.false_xor]
      walk_at "kf1"
      refine gSeq_step ?_
      walk_at "kf1"
      refine take_of hp (by simp only [List.length_map]; omega) (by simp only [List.length_map]; simp only [List.length_cons] at hul; omega) fun j hj0 hj1 => ?_
      refine rIx_any hj0 (by simpa using hj1) fun v hv => ?_
      obtain ⟨u, hu, rfl⟩ : ∃ u ∈ u0 :: ur, dUs u = v := by
        rw [← List.map_cons (f := dUs)] at hv
        exact List.mem_map.mp hv
      obtain ⟨k0, e1, e2⟩ := hus u hu
      obtain ⟨a1, a2, a3⟩ := kd_of _ _ e1
      have hml := us_len k0 u.2 g e2
      have hd0 := k0.depth_lt
      have hmk := us_kd k0 u.2 g e2 a2
      walk_at "kf1"
      refine gSeq_step ?_
      walk_at "kf1"
      walk_at "tg"
      refine gSeq_step ?_
      walk_at "kf1"
      refine forA_ix dMv (fun pre rest ρ O2 => O2 = O' ∧ ∃ (p : Pg) (k : Kd) (x4 x5 x6 x9 : Option D), ρ = [some (.ref pa), some (.lst (kn.map kv)), some (dK g), some (.int r), x4, x5, x6, some (dMvs u.2), some (dP p), x9] ∧ hasU (envOf kn) p k ∧ Us k rest g ∧ p.hgt + 4 ≤ pre.length + 8 * r.toNat) u.2 [] _ _ ⟨rfl, .nm u.1, k0, _, _, _, _, rfl, ⟨e1, a1⟩, e2, by simp only [Pg.hgt, List.length_nil]; omega⟩ ?_ ?_
      · rintro ρ O' ⟨rfl, p, k, x4, x5, x6, x9, rfl, hpk, hus', hph⟩
        have ek : k = g := by cases k <;> exact hus'
        subst ek
        rw [List.nil_append] at hph
        try dsimp only
        walk_at "kf1"
        exact hR (some p) fun p' h => by
          cases h
          exact ⟨by unfold hU; omega, hpk⟩
      · rintro pre m rest ep ρ O' ⟨rfl, p, k, x4, x5, x6, x9, rfl, hpk, hus', hph⟩ N hN
        rw [List.nil_append] at ep
        have hmem : m ∈ u.2 := by rw [ep]; simp
        walk_at "kf1"
        cases m with
        | k c =>
          obtain ⟨c1, c2⟩ := hmk c hmem
          simp only [dMv]
          rw [rEq_Ki (over_k c1)]
          walk_at "kf1"
          rw [rEq_Ki (over_k c1)]
          walk_at "kf1"
          refine ⟨pa, kn, c, r - 1, rfl, hp, hk, c1, by omega, by omega, by omega, by unfold mU; omega, by unfold mU; omega, fun q hq hqk => ?_⟩
          walk_at "tg"
          unfold hU at hq
          cases k with
          | to a b =>
            obtain ⟨rfl, hus2⟩ := hus'
            refine hN _ _ ⟨rfl, .give p q, b, _, _, _, _, rfl, hu_give hpk hqk, hus2, ?_⟩
            simp only [Pg.hgt, List.length_append, List.length_singleton]
            omega
          | _ => exact (hus' : False).elim
        | one =>
          simp only [dMv]
          walk_at "kf1"
          walk_at "tg"
          walk_at "kf1"
          walk_at "tg"
          cases k with
          | both a b =>
            refine hN _ _ ⟨rfl, .first p, a, _, _, _, _, rfl, hu_first hpk, hus', ?_⟩
            simp only [Pg.hgt, List.length_append, List.length_singleton]
            omega
          | _ => exact (hus' : False).elim
        | two =>
          simp only [dMv]
          walk_at "kf1"
          walk_at "tg"
          walk_at "kf1"
          walk_at "tg"
          cases k with
          | both a b =>
            refine hN _ _ ⟨rfl, .second p, b, _, _, _, _, rfl, hu_second hpk, hus', ?_⟩
            simp only [Pg.hgt, List.length_append, List.length_singleton]
            omega
          | _ => exact (hus' : False).elim
  · rintro pre y rest e ρ O' ⟨rfl, us, x5, x6, x7, x8, x9, rfl, hul, hus⟩ N hN
    rw [List.nil_append] at e
    have hy : y ∈ ys := by rw [e]; simp
    have hyk := hys y hy
    obtain ⟨a1, a2, a3⟩ := kd_of _ _ hyk
    have hd0 := y.2.depth_lt
    have hpl : pre.length < 8 := by
      have := congrArg List.length e
      rw [List.length_append, List.length_cons] at this
      omega
    walk_at "kf1"
    refine ⟨y.2, g, y.1, rfl, by omega, over_k a2, hg, by omega, by omega, fun ms hms hmsl => ?_⟩
    try dsimp only
    walk_at "kf1"
    refine lcA_map dMvs (fun m => dUs (y.1, m)) ms _ _ (sz_21 (by simp only [List.length_nil]; omega)) ?_ ?_
    · intro m hm Q' hQ'
      walk_at "kf1"
      walk_at "tg"
      exact hQ'
    · rw [List.nil_append]
      have e3 : ms.map (fun m => dUs (y.1, m)) = (ms.map fun m => (y.1, m)).map dUs := by rw [List.map_map]; rfl
      rw [e3]
      walk_at "kf1"
      refine ⟨sz_21 (by simp only [List.length_map]; omega), ?_⟩
      rw [← List.map_append]
      refine hN _ _ ⟨rfl, _, _, _, _, _, _, rfl, ?_, fun u hu => ?_⟩
      · simp only [List.length_append, List.length_map, List.length_singleton]; omega
      · rcases List.mem_append.mp hu with hu | hu
        · exact hus u hu
        · obtain ⟨m, hm, rfl⟩ := List.mem_map.mp hu
          exact ⟨y.2, hyk, hms m hm⟩
theorem five_of {r : Int} {O : Ow} {Q : VD} (h0 : 0 ≤ r) (h1 : r < 5) (h : ∀ x ∈ TN, Q (.str x) O) : rIxD (.lst [.str "u", .str "v", .str "x0", .str "x7", .str "f"]) (.int r) O Q := by
  refine rIx_any h0 (by simpa using h1) fun v hv => ?_
  simp only [List.mem_cons, List.not_mem_nil, or_false] at hv
  rcases hv with rfl | rfl | rfl | rfl | rfl <;> exact h _ (by decide +kernel)
theorem snoc_kv (kn : List (Str × Kd)) (x : Str) (k : Kd) : D.lst (kn.map kv ++ [.tup [.str x, dK k]]) = .lst ((kn ++ [(x, k)]).map kv) := by rw [List.map_append]; rfl
theorem dP_give (f a : Pg) : D.tup [.str "give", dP f, dP a] = dP (.give f a) := rfl
theorem dP_take (x : Str) (k : Kd) (b : Pg) : D.tup [.str "take", .str x, dK k, dP b] = dP (.take x k b) := rfl
theorem dP_pair (f a : Pg) : D.tup [.str "pair", dP f, dP a] = dP (.pair f a) := rfl
theorem dP_first (f : Pg) : D.tup [.str "first", dP f] = dP (.first f) := rfl
theorem dP_second (f : Pg) : D.tup [.str "second", dP f] = dP (.second f) := rfl
theorem ok_made (T : Tx K mg) (n : Nat) (ih : FO__law_program P w base T (2 * n + 8) (spProgU n)) : FO__law_made P w base T (2 * n + 9) (spProgU (n + 1)) := by
  refine fnd__law_made T ih (ok_take T.n__law_take) (by walk_at "len") ?_
  rintro ds O R RE ⟨pa, kn, g, r, rfl, hp, hk, ho, hl, hr, hr100, hn, hkl, hR⟩
  unfold mU at hn hkl
  unfold hU at hR
  have call : ∀ (kn' : List (Str × Kd)) (k' : Kd) (R' : VD) (RE' : XD), RowU kn' → k'.over AB → k'.leaves < g.leaves → kn'.length ≤ kn.length + 1 → (∀ p : Pg, p.hgt ≤ 8 * r.toNat + k'.leaves → hasU (envOf kn') p k' → R' (dP p) O) → spProgU n [.ref pa, .lst (kn'.map kv), dK k', .int r] O R' RE' := by
    intro kn' k' R' RE' h1 h2 h3 h4 h5
    exact ⟨pa, kn', k', r, rfl, hp, h1, h2, by omega, hr, hr100, by unfold mU; omega, by unfold mU; omega, fun p hp' hh => h5 p hp' hh⟩
  have z2 : (kn.map kv).length + 1 ≤ sizeLine := sz_21 (by rw [List.length_map]; omega)
  unfold g__law_made
  cases g with
  | one =>
    simp only [dK]
    walk_at "kf"; walk_at "tg"; walk_at "kf"; walk_at "tg"
    exact hR .thing (by simp [Pg.hgt]) ⟨rfl, trivial⟩
  | mk m =>
    have hm : m = Str.ofString "a" ∨ m = Str.ofString "b" := by
      have : m ∈ AB := ho
      simpa [AB] using this
    simp only [dK]
    walk_at "kf"; walk_at "tg"; walk_at "kf"; walk_at "tg"; walk_at "kf"
    rcases hm with rfl | rfl
    · rw [rEq_s (by decide +kernel) (by decide +kernel), show decide (Str.ofString "a" = Str.ofString "b") = false by decide +kernel]
      simp only [Bool.false_xor]
      walk_at "kf"; walk_at "tg"; walk_at "kf"; walk_at "tg"
      exact hR (.nm "p") (by simp [Pg.hgt]) ⟨hk.ep, by show Str.ofString "p" ∈ UN; decide +kernel⟩
    · rw [rEq_s (by decide +kernel) (by decide +kernel), show decide (Str.ofString "b" = Str.ofString "b") = true by decide +kernel]
      simp only [Bool.false_xor]
      walk_at "kf"; walk_at "tg"; walk_at "kf"; walk_at "tg"
      exact hR (.nm "q") (by simp [Pg.hgt]) ⟨hk.eq, by show Str.ofString "q" ∈ UN; decide +kernel⟩
  | both a b =>
    have la := lvp a
    have lb := lvp b
    simp only [Kd.leaves] at hl hn hkl hR call
    simp only [dK]
    walk_at "kf"; walk_at "tg"; walk_at "kf"; walk_at "tg"; walk_at "kf"; walk_at "tg"; walk_at "kf"
    refine call kn a _ _ hk ho.1 (by omega) (by omega) fun p1 hp1 hk1 => ?_
    try dsimp only
    refine call kn b _ _ hk ho.2 (by omega) (by omega) fun p2 hp2 hk2 => ?_
    try dsimp only
    walk_at "tg"
    exact hR (.pair p1 p2) (by simp only [Pg.hgt]; omega) (hu_pair hk1 hk2)
  | to a b =>
    have la := lvp a
    have lb := lvp b
    simp only [Kd.leaves] at hl hn hkl hR call
    simp only [dK]
    walk_at "kf"; walk_at "tg"; walk_at "kf"; walk_at "tg"; walk_at "kf"; walk_at "tg"; walk_at "kf"; walk_at "tg"
    refine take_of hp (by decide) (by decide) fun r2 h20 h21 => ?_
    refine five_of h20 h21 fun x hx => ?_
    walk_at "kf"; walk_at "tg"
    refine ⟨z2, ?_⟩
    rw [snoc_kv]
    refine call _ b _ _ (hk.snoc hx ho.1 (by omega)) ho.2 (by omega) (by rw [List.length_append, List.length_singleton]; exact Nat.le_refl _) fun p1 hp1 hk1 => ?_
    try dsimp only
    walk_at "tg"
    exact hR (.take x a p1) (by simp only [Pg.hgt]; omega) (hu_take hx ho.1 (by omega) hk1)
theorem isNon_dP (p : Pg) : isNon (dP p) = false := by cases p <;> rfl
theorem ok_progU (T : Tx K mg) : ∀ n, FO__law_program P w base T (2 * n + 8) (spProgU n)
  | 0 => fnUp (none_left fun ds O R RE ⟨pa, kn, k, r, _, _, _, _, _, _, _, h, _⟩ => by omega) (Nat.zero_le _)
  | n + 1 => by
    have ih := ok_progU T n
    refine fnd__law_program T (ok_take T.n__law_take) (fnUp (ok_lkind T 3) (by omega)) (fnUp ih (by omega)) (ok_used T n ih) (ok_made T n ih) (by walk_at "len") ?_
    rintro ds O R RE ⟨pa, kn, g, r, rfl, hp, hk, ho, hl, hr, hr100, hn, hkl, hR⟩
    have lg := lvp g
    have z2 : (kn.map kv).length + 1 ≤ sizeLine := sz_21 (by rw [List.length_map]; unfold mU at hkl; omega)
    have call : ∀ (kn' : List (Str × Kd)) (k' : Kd) (R' : VD) (RE' : XD), 0 < r → RowU kn' → k'.over AB → k'.leaves ≤ 4 → kn'.length ≤ kn.length + 1 → (∀ p : Pg, p.hgt + 4 ≤ 8 * r.toNat → hasU (envOf kn') p k' → R' (dP p) O) → spProgU n [.ref pa, .lst (kn'.map kv), dK k', .int (r - 1)] O R' RE' := by
      intro kn' k' R' RE' h0 h1 h2 h3 h4 h5
      unfold mU at hn hkl
      exact ⟨pa, kn', k', r - 1, rfl, hp, h1, h2, by omega, by omega, by omega, by unfold mU; omega, by unfold mU; omega, fun p hp' hh => h5 p (by unfold hU at hp'; omega) hh⟩
    have lk : ∀ (l : Int) (R' : VD) (RE' : XD), 0 ≤ l → l < 3 → (∀ k : Kd, k.leaves ≤ 4 → k.over AB → R' (dK k) O) → spLKind 3 [.ref pa, .int (1 + l), .lst [.str "a", .str "b"]] O R' RE' := by
      intro l R' RE' h0 h1 h2
      refine ⟨pa, (1 + l).toNat, AB, by rw [show (((1 + l).toNat : Nat) : Int) = 1 + l by omega]; rfl, hp, by omega, by omega, by omega, by decide, by decide, fun k h3 h4 => h2 k (by omega) h4⟩
    unfold g__law_program
    refine gSeq_step ?_
    walk_at "kf1"
    refine take_of hp (by decide) (by decide) fun way hw0 hw1 => ?_
    walk_at "kf1"
    have last : ∀ x5 x6 x7 x8, (gSeq (gIf (fTest (fOp (rIsN false) (fVar 9) (fC .non))) (gSet (fCall (spProgU (n + 1)) (fCons (fVar 0) (fCons (fVar 1) (fCons (fVar 2) (fCons (fVar 3) fNil))))) 9) gNext) (gRet (fVar 9))) { nx := fun _ O' => R .non O', rt := R } [some (.ref pa), some (.lst (kn.map kv)), some (dK g), some (.int r), some (.int way), x5, x6, x7, x8, some .non] O := by
      intro x5 x6 x7 x8
      refine gSeq_step ?_
      walk_at "kf1"
      refine ⟨pa, kn, g, r, rfl, hp, hk, ho, hl, hr, hr100, hn, hkl, fun p h1 h2 => ?_⟩
      try dsimp only
      walk_at "kf1"
      exact hR p h1 h2
    have rest : ∀ x5 x6 x7 x8 x9, (gSeq (gSet (fC .non) 9) (gSeq (gIf (fAnd (fTest (fOp rGtD (fVar 3) (fC (.int 0)))) (fTest (fOp rLtD (fVar 4) (fC (.int 6))))) (gSet (fCall (spUsed (n + 1)) (fCons (fVar 0) (fCons (fVar 1) (fCons (fVar 2) (fCons (fVar 3) fNil))))) 9) gNext) (gSeq (gIf (fTest (fOp (rIsN false) (fVar 9) (fC .non))) (gSet (fCall (spProgU (n + 1)) (fCons (fVar 0) (fCons (fVar 1) (fCons (fVar 2) (fCons (fVar 3) fNil))))) 9) gNext) (gRet (fVar 9))))) { nx := fun _ O' => R .non O', rt := R } [some (.ref pa), some (.lst (kn.map kv)), some (dK g), some (.int r), some (.int way), x5, x6, x7, x8, x9] O := by
      intro x5 x6 x7 x8 x9
      refine gSeq_step ?_
      walk_at "kf1"
      refine gSeq_step ?_
      walk_at "kf1"
      by_cases h0 : 0 < r
      · rw [if_pos h0]
        walk_at "kf1"
        by_cases h6 : way < 6
        · rw [if_pos h6]
          refine ⟨pa, kn, g, r, rfl, hp, hk, ho, hl, h0, hr100, hn, hkl, fun o ho' => ?_⟩
          cases o with
          | none =>
            simp only [dPn]
            exact last _ _ _ _
          | some p =>
            obtain ⟨h1, h2⟩ := ho' p rfl
            simp only [dPn]
            refine gSeq_step ?_
            walk_at "kf1"
            rw [isNon_dP]
            walk_at "kf1"
            exact hR p h1 h2
        · rw [if_neg h6]
          exact last _ _ _ _
      · rw [if_neg h0]
        walk_at "kf1"
        exact last _ _ _ _
    refine gSeq_step ?_
    by_cases h0 : 0 < r
    · by_cases hw2 : way < 2
      · rw [gIf_T (fun Q => by walk_at "kf1"; rw [if_pos h0]; walk_at "kf1"; simp only [hw2, decide_true])]
        refine gSeq_step ?_
        walk_at "kf1"
        walk_at "tg"
        refine take_of hp (by decide) (by decide) fun r2 h20 h21 => ?_
        refine five_of h20 h21 fun x hx => ?_
        walk_at "kf1"
        refine gSeq_step ?_
        walk_at "kf1"
        refine take_of hp (by decide) (by decide) fun r3 h30 h31 => ?_
        walk_at "kf1"
        walk_at "tg"
        refine lk r3 _ _ h30 h31 fun ko hkol hko => ?_
        try dsimp only
        refine gSeq_step ?_
        walk_at "kf1"
        walk_at "tg"
        refine ⟨z2, ?_⟩
        rw [snoc_kv]
        refine call _ g _ _ h0 (hk.snoc hx hko hkol) ho hl (by rw [List.length_append, List.length_singleton]; exact Nat.le_refl _) fun b hb hbk => ?_
        try dsimp only
        walk_at "kf1"
        walk_at "tg"
        refine call kn ko _ _ h0 hk hko hkol (by omega) fun a ha hak => ?_
        try dsimp only
        walk_at "tg"
        rw [dP_take, dP_give]
        exact hR _ (by unfold hU; simp only [Pg.hgt]; omega) (hu_give (hu_take hx hko hkol hbk) hak)
      · rw [gIf_F (fun Q => by walk_at "kf1"; rw [if_pos h0]; walk_at "kf1"; simp only [hw2, decide_false])]
        walk_at "kf1"
        refine gSeq_step ?_
        by_cases hw3 : way = 2
        · rw [gIf_T (fun Q => by walk_at "kf1"; rw [if_pos h0]; walk_at "kf1"; simp only [hw3, decide_true])]
          refine gSeq_step ?_
          walk_at "kf1"
          refine take_of hp (by decide) (by decide) fun r3 h30 h31 => ?_
          walk_at "kf1"
          walk_at "tg"
          refine lk r3 _ _ h30 (by omega) fun ko hkol hko => ?_
          try dsimp only
          refine gSeq_step ?_
          walk_at "kf1"
          refine call kn g _ _ h0 hk ho hl (by omega) fun a ha hak => ?_
          try dsimp only
          refine call kn ko _ _ h0 hk hko hkol (by omega) fun b hb hbk => ?_
          try dsimp only
          walk_at "tg"
          refine gSeq_step ?_
          walk_at "kf1"
          refine take_of hp (by decide) (by decide) fun r4 h40 h41 => ?_
          walk_at "kf1"
          walk_at "tg"
          split
          · walk_at "tg"
            rw [dP_pair, dP_first]
            exact hR _ (by unfold hU; simp only [Pg.hgt]; omega) (hu_first (hu_pair hak hbk))
          · walk_at "kf1"
            walk_at "tg"
            rw [dP_pair, dP_second]
            exact hR _ (by unfold hU; simp only [Pg.hgt]; omega) (hu_second (hu_pair hbk hak))
        · rw [gIf_F (fun Q => by walk_at "kf1"; rw [if_pos h0]; walk_at "kf1"; simp only [hw3, decide_false])]
          walk_at "kf1"
          exact rest _ _ _ _ _
    · rw [gIf_F (fun Q => by walk_at "kf1"; rw [if_neg h0])]
      walk_at "kf1"
      refine gSeq_step ?_
      rw [gIf_F (fun Q => by walk_at "kf1"; rw [if_neg h0])]
      walk_at "kf1"
      exact rest _ _ _ _ _
end
end Kf
namespace Kf
open PySem PySem.Spec L2
open PyProof.Rows hiding St
local macro_rules | `(tactic| walk_at "kf") => `(tactic| simp (config := { failIfUnchanged := false }) only [startD, ap_fiEnumT, asT1_t, ap_fKGet, asStr_s, ap_fKIn, ap_fKIx, ap_gAsgL, rUnl_l, ap_fiRng3, asR3_i, rSplitO_s, ap_fOrL, rOrL_l, ap_fLcK, ap_gForK, ap_fMaxD, rMaxD_l, rMaxL_l, ap_fCallXD, ap_gForE, asLE_l, ap_fFrz, ap_fDicO, ap_fDGet, ap_fDGet1, ap_fDGet2, ap_gDPut, ap_fIsiT, ap_gForR, rRep_l, isT_i, isT_s, isT_b, isT_n, isT_t, isT_l, ap_gSeq, ap_gIf, ap_gRet, ap_gNext, ap_gSet, ap_gAsg, ap_gPar, ap_gDrop, ap_gRetF, ap_gRetN, ap_gFor, ap_gSetIx, ap_gBreak, ap_fRev, ap_fiRevR, asIR_i, rRev_l, ap_fCallX, ap_gRaise, ap_gTry, ap_gTryAs, ap_gNever, ap_fEdic, ap_fTest, ap_fOp, ap_fVar, envGet_s, patGet_s, ap_fC, ap_fCB, ap_fCons, ap_fNil, ap_fCall, ap_fAnd, ap_fOr, ap_fNot, ap_fAndV, ap_fOrV, ap_fNotV, ap_fIf, ap_fTup, ap_fLst, ap_fLstO, ap_fChain, ap_fUn, ap_fBM, ap_fBM0, ap_fPool, rPool_i, ap_fSl, ap_fPart, ap_fNoPart, asI_i, rSl_l, ap_fiRng1, ap_fiRng2, ap_fiList, ap_fiTup, ap_fiStr, ap_fiEnum, ap_fiZip, ap_fiRev, asL_l, asT_t, asSg_s, asR1_i, asR2_i, asL1_l, asL2_l, ap_fLc, ap_fLcO, ap_fYes, wipeD, lcD, isi_i_int, isi_i_bool, isi_i_str, isi_i_tuple, isi_i_list, isi_i_dict, isi_b_int, isi_b_bool, isi_b_str, isi_b_tuple, isi_b_list, isi_b_dict, isi_s_int, isi_s_bool, isi_s_str, isi_s_tuple, isi_s_list, isi_s_dict, isi_t_int, isi_t_bool, isi_t_str, isi_t_tuple, isi_t_list, isi_t_dict, isi_l_int, isi_l_bool, isi_l_str, isi_l_tuple, isi_l_list, isi_l_dict, isi_n_int, isi_n_bool, isi_n_str, isi_n_tuple, isi_n_list, isi_n_dict, isi_d_int, isi_d_bool, isi_d_str, isi_d_tuple, isi_d_list, isi_d_dict,
  deref_tup, deref_lst, deref_int, deref_str, deref_bl, deref_non, deref_scr, rLt_i, rLt_s, rLe_i, rLe_s, rInts_i, rInts0_i, rAdd_i, rAdd_s, rAdd_l, rAdd_t, rCatO_l, rNeg_i, rLen_t, rLen_l, rLen_c, rLen_s, rMax_i, rMin_i, rInt_i, rInt_b, rDivmod_i, ap_gAug, rStr_i, rList_l, rList_t, rListO_l, rListO_t, rTup_l, rTup_t,
  rIx_t0, rIx_t1, rIx_t2, rIx_t3, rIx_l0, rIx_l1, rIx_l2, rIsN_x, isNon_t, isNon_n, isNon_i, isNon_s, isNon_l, rEq_i, rEq_b, rEq_i2, rEq_b2, rJoin_m, rSplit_s, tyOk_l, tyOk_s, patD_nm, patD_tp, patDs_nil, patDs_cons, Option.bind_some, notX, notX',
  List.map_cons, List.map_nil, List.length_cons, List.length_nil, List.cons_append, List.nil_append, List.append_nil, List.replicate, List.getElem?_cons_zero, List.getElem?_cons_succ, List.set_cons_zero, List.set_cons_succ, updO_same, updO_updO,
  Nat.reduceSub, Nat.reduceAdd, Nat.reduceLeDiff, Nat.zero_add, Int.cast_ofNat_Int, Int.natCast_zero, Int.natCast_one, Int.reduceLT, Int.reduceLE, Int.reduceEq, Int.reduceAdd, Int.reduceSub, Int.reduceNeg, decide_true, decide_false, if_true, if_false, Bool.false_eq_true, eq_self, reduceIte, Bool.true_eq_false, decide_eq_true_eq, Bool.not_true, Bool.not_false, Bool.not_eq_true', decide_eq_false_iff_not, exists_eq_left', exists_eq_left, D.bl.injEq, true_and, and_true, not_true_eq_false, not_false_eq_true])
local macro_rules | `(tactic| walk_at "len") => `(tactic| (intro ds O R RE h; first | (obtain ⟨e, _⟩ := h; subst e; rfl) | (obtain ⟨_, e, _⟩ := h; subst e; rfl) | (obtain ⟨_, _, e, _⟩ := h; subst e; rfl) | (obtain ⟨_, _, _, e, _⟩ := h; subst e; rfl) | (obtain ⟨_, _, _, _, e, _⟩ := h; subst e; rfl) | (obtain ⟨_, _, _, _, _, e, _⟩ := h; subst e; rfl) | (obtain ⟨_, _, _, _, _, _, e, _⟩ := h; subst e; rfl) | (obtain ⟨_, _, _, _, _, _, _, e, _⟩ := h; subst e; rfl) | (obtain ⟨_, _, _, _, _, _, _, _, e, _⟩ := h; subst e; rfl) | (obtain ⟨_, _, _, _, _, _, _, _, _, e, _⟩ := h; subst e; rfl)))
local macro_rules | `(tactic| walk_at "kf1") => `(tactic| simp (config := { failIfUnchanged := false }) only [startD, ap_fiEnumT, asT1_t, ap_fKGet, asStr_s, ap_fKIn, ap_fKIx, ap_gAsgL, rUnl_l, ap_fiRng3, asR3_i, rSplitO_s, ap_fOrL, rOrL_l, ap_fLcK, ap_gForK, ap_fMaxD, rMaxD_l, rMaxL_l, ap_fCallXD, ap_gForE, asLE_l, ap_fFrz, ap_fDicO, ap_fDGet, ap_fDGet1, ap_fDGet2, ap_gDPut, ap_fIsiT, ap_gForR, rRep_l, isT_i, isT_s, isT_b, isT_n, isT_t, isT_l, ap_gIf, ap_gRet, ap_gNext, ap_gSet, ap_gAsg, ap_gPar, ap_gDrop, ap_gRetF, ap_gRetN, ap_gFor, ap_gSetIx, ap_gBreak, ap_fRev, ap_fiRevR, asIR_i, rRev_l, ap_fCallX, ap_gRaise, ap_gTry, ap_gTryAs, ap_gNever, ap_fEdic, ap_fTest, ap_fOp, ap_fVar, envGet_s, patGet_s, ap_fC, ap_fCB, ap_fCons, ap_fNil, ap_fCall, ap_fAnd, ap_fOr, ap_fNot, ap_fAndV, ap_fOrV, ap_fNotV, ap_fIf, ap_fTup, ap_fLst, ap_fLstO, ap_fChain, ap_fUn, ap_fBM, ap_fBM0, ap_fPool, rPool_i, ap_fSl, ap_fPart, ap_fNoPart, asI_i, rSl_l, ap_fiRng1, ap_fiRng2, ap_fiList, ap_fiTup, ap_fiStr, ap_fiEnum, ap_fiZip, ap_fiRev, asL_l, asT_t, asSg_s, asR1_i, asR2_i, asL1_l, asL2_l, ap_fLc, ap_fLcO, ap_fYes, wipeD, lcD, isi_i_int, isi_i_bool, isi_i_str, isi_i_tuple, isi_i_list, isi_i_dict, isi_b_int, isi_b_bool, isi_b_str, isi_b_tuple, isi_b_list, isi_b_dict, isi_s_int, isi_s_bool, isi_s_str, isi_s_tuple, isi_s_list, isi_s_dict, isi_t_int, isi_t_bool, isi_t_str, isi_t_tuple, isi_t_list, isi_t_dict, isi_l_int, isi_l_bool, isi_l_str, isi_l_tuple, isi_l_list, isi_l_dict, isi_n_int, isi_n_bool, isi_n_str, isi_n_tuple, isi_n_list, isi_n_dict, isi_d_int, isi_d_bool, isi_d_str, isi_d_tuple, isi_d_list, isi_d_dict,
  deref_tup, deref_lst, deref_int, deref_str, deref_bl, deref_non, deref_scr, rLt_i, rLt_s, rLe_i, rLe_s, rInts_i, rInts0_i, rAdd_i, rAdd_s, rAdd_l, rAdd_t, rCatO_l, rNeg_i, rLen_t, rLen_l, rLen_c, rLen_s, rMax_i, rMin_i, rInt_i, rInt_b, rDivmod_i, ap_gAug, rStr_i, rList_l, rList_t, rListO_l, rListO_t, rTup_l, rTup_t,
  rIx_t0, rIx_t1, rIx_t2, rIx_t3, rIx_l0, rIx_l1, rIx_l2, rIsN_x, isNon_t, isNon_n, isNon_i, isNon_s, isNon_l, rEq_i, rEq_b, rEq_i2, rEq_b2, rJoin_m, rSplit_s, tyOk_l, tyOk_s, patD_nm, patD_tp, patDs_nil, patDs_cons, Option.bind_some, notX, notX',
  List.map_cons, List.map_nil, List.length_cons, List.length_nil, List.cons_append, List.nil_append, List.append_nil, List.replicate, List.getElem?_cons_zero, List.getElem?_cons_succ, List.set_cons_zero, List.set_cons_succ, updO_same, updO_updO,
  Nat.reduceSub, Nat.reduceAdd, Nat.reduceLeDiff, Nat.zero_add, Int.cast_ofNat_Int, Int.natCast_zero, Int.natCast_one, Int.reduceLT, Int.reduceLE, Int.reduceEq, Int.reduceAdd, Int.reduceSub, Int.reduceNeg, decide_true, decide_false, if_true, if_false, Bool.false_eq_true, eq_self, reduceIte, Bool.true_eq_false, decide_eq_true_eq, Bool.not_true, Bool.not_false, Bool.not_eq_true', decide_eq_false_iff_not, exists_eq_left', exists_eq_left, D.bl.injEq, true_and, and_true, not_true_eq_false, not_false_eq_true])
section
variable {P : Program} {w : World} {K : PySem.W.Frag} {mg : Str → Option Value} {base : Heap}
local macro_rules | `(tactic| walk_at "tg") => `(tactic| simp (config := { failIfUnchanged := false }) only [te_name_take, te_name_give, te_name_pair, te_name_first, te_name_second, te_name_to, te_name_both, te_name_one, te_name_mark, te_name_name, te_name_thing, te_name_at, te_thing_take, te_thing_give, te_thing_pair, te_thing_first, te_thing_second, te_thing_to, te_thing_both, te_thing_one, te_thing_mark, te_thing_name, te_thing_thing, te_thing_at, te_take_take, te_take_give, te_take_pair, te_take_first, te_take_second, te_take_to, te_take_both, te_take_one, te_take_mark, te_take_name, te_take_thing, te_take_at, te_give_take, te_give_give, te_give_pair, te_give_first, te_give_second, te_give_to, te_give_both, te_give_one, te_give_mark, te_give_name, te_give_thing, te_give_at, te_pair_take, te_pair_give, te_pair_pair, te_pair_first, te_pair_second, te_pair_to, te_pair_both, te_pair_one, te_pair_mark, te_pair_name, te_pair_thing, te_pair_at, te_first_take, te_first_give, te_first_pair, te_first_first, te_first_second, te_first_to, te_first_both, te_first_one, te_first_mark, te_first_name, te_first_thing, te_first_at, te_second_take, te_second_give, te_second_pair, te_second_first, te_second_second, te_second_to, te_second_both, te_second_one, te_second_mark, te_second_name, te_second_thing, te_second_at, te_mark_take, te_mark_give, te_mark_pair, te_mark_first, te_mark_second, te_mark_to, te_mark_both, te_mark_one, te_mark_mark, te_mark_name, te_mark_thing, te_mark_at, te_one_take, te_one_give, te_one_pair, te_one_first, te_one_second, te_one_to, te_one_both, te_one_one, te_one_mark, te_one_name, te_one_thing, te_one_at, te_to_take, te_to_give, te_to_pair, te_to_first, te_to_second, te_to_to, te_to_both, te_to_one, te_to_mark, te_to_name, te_to_thing, te_to_at, te_both_take, te_both_give, te_both_pair, te_both_first, te_both_second, te_both_to, te_both_both, te_both_one, te_both_mark, te_both_name, te_both_thing, te_both_at, te_at_take, te_at_give, te_at_pair, te_at_first, te_at_second, te_at_to, te_at_both, te_at_one, te_at_mark, te_at_name, te_at_thing, te_at_at, ti4_name, ti4_thing, ti4_take, ti4_give, ti4_pair, ti4_first, ti4_second, ti2_name, ti2_thing, ti2_take, ti2_give, ti2_pair, ti2_first, ti2_second, szT_0, szT_1, szT_2, szT_3, szT_4, szT_5, szT_6, szT_7, szT_8, szT_9, szT_10, szT_11, szT_12, Bool.not_true, Bool.not_false, true_and])
def spRowU : DSp := fun ds O R _ => ∃ pa : Addr, ds = [.ref pa] ∧ O pa = some .pool ∧ ∀ kn : List (Str × Kd), RowU kn → kn.length ≤ 4 → (∀ q ∈ kn, q.1 ∈ ([Str.ofString "p", "q", "f", "g"] : List Str)) → R (.lst (kn.map kv)) O
def rowPQ : List (Str × Kd) := [("p", .mk "a"), ("q", .mk "b")]
theorem rowPQ_ok : RowU rowPQ := by
  refine ⟨fun q hq => ?_, by decide +kernel, by decide +kernel⟩
  simp only [rowPQ, List.mem_cons, List.not_mem_nil, or_false] at hq
  rcases hq with rfl | rfl <;> simp [Kd.over, Kd.leaves, UN, AB]
theorem RowU.snoc2 {kn : List (Str × Kd)} (h : RowU kn) {x : Str} {k : Kd} (hx : x = Str.ofString "f" ∨ x = Str.ofString "g") (ho : k.over AB) (hl : k.leaves ≤ 4) : RowU (kn ++ [(x, k)]) := by
  have h1 : x ∈ UN ∧ x ≠ "p" ∧ x ≠ "q" := by rcases hx with rfl | rfl <;> decide +kernel
  refine ⟨fun q hq => ?_, ?_, ?_⟩
  · rcases List.mem_append.mp hq with hq | hq
    · exact h.nm q hq
    · rw [List.mem_singleton.mp hq]; exact ⟨h1.1, ho, hl⟩
  · rw [envOf_snoc, if_neg h1.2.1]; exact h.ep
  · rw [envOf_snoc, if_neg h1.2.2]; exact h.eq
theorem ok_rowU (T : Tx K mg) : FO__law_row P w base T 6 spRowU := by
  refine fnd__law_row T (ok_take T.n__law_take) (ok_lkind T 4) (by walk_at "len") ?_
  rintro ds O R RE ⟨pa, rfl, hp, hR⟩
  unfold g__law_row
  refine gSeq_step ?_
  walk_at "kf1"
  walk_at "tg"
  intro f hf
  have hpf : ∀ c, updO O f c pa = some .pool := fun c => by
    have hne : pa ≠ f := fun z => by rw [z, hf] at hp; cases hp
    rw [updO_ne hne, hp]
  refine gSeq_step ?_
  walk_at "kf1"
  walk_at "tg"
  refine take_of (hpf _) (by decide) (by decide) fun r hr0 hr1 => ?_
  walk_at "kf1"
  have e : ∃ ts : List Str, cut [D.str "f", D.str "g"] none (some r) = ts.map D.str ∧ ts.length ≤ 2 ∧ ∀ t ∈ ts, t = Str.ofString "f" ∨ t = Str.ofString "g" := by
    have h3 : r = 0 ∨ r = 1 ∨ r = 2 := by omega
    rcases h3 with rfl | rfl | rfl
    · exact ⟨[], by simp [cut, HT.sIx], by simp, by simp⟩
    · exact ⟨["f"], by simp [cut, HT.sIx], by simp, by simp⟩
    · exact ⟨["f", "g"], by simp [cut, HT.sIx], by simp, by simp⟩
  obtain ⟨ts, e1, e2, e3⟩ := e
  rw [e1]
  refine forA_ix D.str (fun pre _ ρ O' => ∃ (kn : List (Str × Kd)) (x2 : Option D), ρ = [some (.ref pa), some (.ref f), x2] ∧ O' = updO O f (.lst (kn.map kv)) ∧ RowU kn ∧ kn.length = 2 + pre.length ∧ ∀ q ∈ kn, q.1 ∈ ([Str.ofString "p", "q", "f", "g"] : List Str)) ts [] _ _ ⟨rowPQ, _, rfl, rfl, rowPQ_ok, rfl, by decide +kernel⟩ ?_ ?_
  · rintro ρ O' ⟨kn, x2, rfl, rfl, h1, h2, h3⟩
    rw [List.nil_append] at h2
    try dsimp only
    walk_at "kf1"
    rw [delO_updO hf]
    exact hR kn h1 (by omega) h3
  · rintro pre t rest ep ρ O' ⟨kn, x2, rfl, rfl, h1, h2, h3⟩ N hN
    rw [List.nil_append] at ep
    have ht := e3 t (by rw [ep]; simp)
    have hpl : pre.length < 2 := by
      have := congrArg List.length ep
      rw [List.length_append, List.length_cons] at this
      omega
    walk_at "kf1"
    refine ⟨tyOk_r updO_same, ?_⟩
    refine take_of (hpf _) (by decide) (by decide) fun l hl0 hl1 => ?_
    walk_at "kf1"
    walk_at "tg"
    refine ⟨pa, (1 + l).toNat, AB, by rw [show (((1 + l).toNat : Nat) : Int) = 1 + l by omega]; rfl, hpf _, by omega, by omega, by omega, by decide, by decide, fun k h4 h5 => ?_⟩
    walk_at "tg"
    rw [rApp_r updO_same]
    refine ⟨Nat.lt_of_lt_of_le (show (kn.map kv).length < 100 by rw [List.length_map]; omega) (by decide), ?_⟩
    rw [updO_updO]
    refine hN _ _ ⟨kn ++ [(t, k)], _, rfl, by rw [List.map_append]; rfl, h1.snoc2 ht h5 (by omega), by simp only [List.length_append, List.length_singleton]; omega, fun q hq => ?_⟩
    rcases List.mem_append.mp hq with hq | hq
    · exact h3 q hq
    · rw [List.mem_singleton.mp hq]
      rcases ht with rfl | rfl <;> simp
def spWords : DSp := fun ds O R _ => ds = [] ∧ R (.lst (WD.map .str)) O
theorem ok_words (T : Tx K mg) : FO__law_words P w base T 1 spWords := by
  refine fnd__law_words T (by intro ds O R RE h; rw [h.1]; rfl) ?_
  rintro ds O R RE ⟨rfl, hR⟩
  unfold g__law_words
  walk_at "kf"
  walk_at "tg"
  exact hR
def pszs : List Pg → Nat
  | [] => 0
  | p :: ps => p.psz + pszs ps
theorem pszs_app : ∀ a b : List Pg, pszs (a ++ b) = pszs a + pszs b
  | [], b => by simp [pszs]
  | p :: a, b => by simp only [List.cons_append, pszs, pszs_app a b]; omega
theorem pszs_ins (p : Pg) : pszs p.ins + 1 = p.psz := by cases p <;> simp only [Pg.ins, pszs, Pg.psz] <;> omega
theorem pszs_len : ∀ ps : List Pg, ps.length ≤ pszs ps
  | [] => Nat.le_refl _
  | p :: ps => by have := pszs_len ps; have := p.psz_pos; simp only [List.length_cons, pszs]; omega
def spManyU : DSp := fun ds O R _ => ∃ p : Pg, ds = [dP p] ∧ p.sok = true ∧ p.psz ≤ 4194304 ∧ R (.int p.psz) O
theorem spWords_eq {O : Ow} {R : VD} {RE : XD} : spWords [] O R RE = R (.lst (WD.map .str)) O := by simp [spWords]
theorem szL_0 : ((0 : Nat) < sizeLine) = True := eq_true (by decide)
theorem szL_1 : ((1 : Nat) < sizeLine) = True := eq_true (by decide)
theorem szL_2 : ((2 : Nat) < sizeLine) = True := eq_true (by decide)
theorem many_lc {p : Pg} {x0 x1 x2 x3 : Option D} {O : Ow} {Q : List D → Ow → Prop} (hQ : Q (p.ins.map dP) O) :
    asT (dP p) O fun ds O1 => lcD (.nm 4) (fAnd (fTest (fCB rIsiD (fCons (fVar 4) (fCons (fC (.ty "tuple")) fNil)))) (fTest (fOp (rInD false) (fOp rIxD (fVar 4) (fC (.int 0))) (fCall spWords fNil)))) (fVar 4) [x0, x1, x2, x3, none] ds [] O1 Q := by
  cases p <;> simp only [dP, asT_t, Pg.ins, List.map_cons, List.map_nil] at hQ ⊢ <;> walk_at "kf" <;> (try simp only [isi_dP, isi_dK, rIx_dP0, rIx_dK0, spWords_eq, rIn_pw, rIn_kw, szL_0, szL_1, szL_2, true_and]) <;> walk_at "kf" <;> (try simp only [isi_dP, isi_dK, rIx_dP0, rIx_dK0, spWords_eq, rIn_pw, rIn_kw, szL_0, szL_1, szL_2, true_and]) <;> walk_at "kf" <;> (try simp only [isi_dP, isi_dK, rIx_dP0, rIx_dK0, spWords_eq, rIn_pw, rIn_kw, szL_0, szL_1, szL_2, true_and]) <;> walk_at "kf" <;> (try simp only [isi_dP, isi_dK, rIx_dP0, rIx_dK0, spWords_eq, rIn_pw, rIn_kw, szL_0, szL_1, szL_2, true_and]) <;> walk_at "kf" <;> (try simp only [isi_dP, isi_dK, rIx_dP0, rIx_dK0, spWords_eq, rIn_pw, rIn_kw, szL_0, szL_1, szL_2, true_and]) <;> walk_at "kf" <;> (try simp only [isi_dP, isi_dK, rIx_dP0, rIx_dK0, spWords_eq, rIn_pw, rIn_kw, szL_0, szL_1, szL_2, true_and]) <;> walk_at "kf" <;> (try simp only [isi_dP, isi_dK, rIx_dP0, rIx_dK0, spWords_eq, rIn_pw, rIn_kw, szL_0, szL_1, szL_2, true_and]) <;> walk_at "kf" <;> (try simp only [isi_dP, isi_dK, rIx_dP0, rIx_dK0, spWords_eq, rIn_pw, rIn_kw, szL_0, szL_1, szL_2, true_and]) <;> exact hQ
theorem py_Ps {ps : List Pg} (h : ∀ p ∈ ps, p.sok = true) : isPys (ps.map dP) = true := by
  rw [isPys_all, List.all_eq_true]
  intro d hd
  obtain ⟨p, hp, rfl⟩ := List.mem_map.mp hd
  rw [isPy_dP]
  exact h p hp
theorem ok_manyU (T : Tx K mg) : FO__law_many P w base T 2 spManyU := by
  refine fndG__law_many T (ok_words T) (by walk_at "len") ?_
  rintro ds O R RE ⟨p, rfl, hs, hz, hR⟩
  unfold g__law_many
  refine gSeq_step ?_
  walk_at "kf1"
  walk_at "tg"
  intro f hf
  refine gSeq_step ?_
  walk_at "kf1"
  refine gSeq_step ?_
  refine ⟨fun m ρ O' => ∃ (ps : List Pg) (n : Nat) (x3 x4 : Option D), ρ = [some (dP p), some (.ref f), some (.int (n : Int)), x3, x4] ∧ O' = updO O f (.lst (ps.map dP)) ∧ m = pszs ps ∧ n + pszs ps = p.psz ∧ ∀ q ∈ ps, q.sok = true, ⟨p.psz, [p], 0, none, none, rfl, rfl, by simp [pszs], by simp [pszs], by simpa using hs⟩, ?_⟩
  rintro m ρ O' ⟨ps, n, x3, x4, rfl, rfl, rfl, hn, hps⟩
  walk_at "kf1"
  walk_at "tg"
  rw [rEq_nilA (xs := ps.map dP) (deref_ref updO_same) (py_Ps hps)]
  rcases List.eq_nil_or_concat ps with rfl | ⟨qs, q, rfl⟩
  · simp only [List.map_nil, List.isEmpty_nil, Bool.xor_self]
    walk_at "kf1"
    simp only [pszs] at hn
    have : (n : Int) = p.psz := by omega
    rw [this]
    exact VG.up hf hR
  · have e1 : ((qs.concat q).map dP).isEmpty = false := by simp
    rw [e1]
    walk_at "kf1"
    have hq : q.sok = true := hps q (by simp)
    have hl := pszs_len (qs.concat q)
    have hsum : pszs (qs.concat q) = pszs qs + q.psz := by rw [List.concat_eq_append, pszs_app]; simp [pszs]
    have hins := pszs_ins q
    refine gSeq_step ?_
    walk_at "kf1"
    refine ⟨tyOk_r updO_same, ?_⟩
    have e2 : (qs.concat q).map dP = qs.map dP ++ [dP q] := by simp
    rw [e2, rPop_r updO_same (d := dP q) (by simp), updO_updO, List.dropLast_concat]
    walk_at "kf1"
    refine gSeq_step ?_
    walk_at "kf1"
    refine ⟨tyOk_r updO_same, ?_⟩
    refine many_lc ?_
    rw [rExt_r updO_same rfl]
    refine ⟨sz_21 ?_, ?_⟩
    · have := pszs_len q.ins
      have := pszs_len qs
      simp only [List.length_map]; omega
    · rw [updO_updO]
      refine ⟨pszs (qs ++ q.ins), by rw [hsum, pszs_app]; omega, qs ++ q.ins, n + 1, _, _, rfl, by rw [List.map_append], rfl, by rw [pszs_app]; omega, fun z hz => ?_⟩
      rcases List.mem_append.mp hz with hz | hz
      · exact hps z (by simp [hz])
      · exact (ins_ok hz hq).1
def spDrawnU : DSp := fun ds O R _ => ∃ (pa : Addr) (kn : List (Str × Kd)) (m : Nat), ds = [.ref pa, .lst (kn.map kv), .int m] ∧ O pa = some .pool ∧ RowU kn ∧ kn.length ≤ 4 ∧ 31 ≤ m ∧ ∀ (k : Kd) (p : Pg), k.over AB → k.leaves ≤ 4 → p.hgt ≤ 20 → p.psz ≤ m → hasU (envOf kn) p k → R (.tup [dK k, dP p]) O
theorem ok_drawnU (T : Tx K mg) : FO__law_drawn P w base T 60 spDrawnU := by
  refine fnd__law_drawn T (fnUp (ok_lkind T 4) (by omega)) (ok_take T.n__law_take) (fnUp (ok_progU T 17) (by omega)) (fnUp (ok_manyU T) (by omega)) (by walk_at "len") ?_
  rintro ds O R RE ⟨pa, kn, m, rfl, hp, hk, hkl, hm, hR⟩
  unfold g__law_drawn
  refine gSeq_step ?_
  walk_at "kf1"
  refine take_of hp (by decide) (by decide) fun l hl0 hl1 => ?_
  walk_at "kf1"
  walk_at "tg"
  refine ⟨pa, (1 + l).toNat, AB, by rw [show (((1 + l).toNat : Nat) : Int) = 1 + l by omega]; rfl, hp, by omega, by omega, by omega, by decide, by decide, fun k hkl2 hko => ?_⟩
  try dsimp only
  refine gSeq_step ?_
  walk_at "kf1"
  refine take_of hp (by decide) (by decide) fun r hr0 hr1 => ?_
  walk_at "kf1"
  refine ⟨pa, kn, k, 1 + r, rfl, hp, hk, hko, by omega, by omega, by omega, by unfold mU; omega, by unfold mU; omega, fun p hph hpk => ?_⟩
  unfold hU at hph
  have hsz : p.psz ≤ 4194304 := by
    have h1 := psz_hgt p
    have h2 : 2 ^ (p.hgt + 1) ≤ 2 ^ 21 := Nat.pow_le_pow_right (by decide) (by omega)
    have h3 : (2 : Nat) ^ 21 = 2097152 := by decide
    omega
  try dsimp only
  refine gSeq_step ?_
  walk_at "kf1"
  refine ⟨p, rfl, (pgu_ok p hpk.2).1, hsz, ?_⟩
  walk_at "kf1"
  split
  · refine ⟨pa, kn, k, 0, rfl, hp, hk, hko, by omega, by omega, by omega, by unfold mU; omega, by unfold mU; omega, fun q hqh hqk => ?_⟩
    unfold hU at hqh
    try dsimp only
    walk_at "kf1"
    walk_at "tg"
    have := psz4 (p := q) (by omega)
    exact hR k q hko (by omega) (by omega) (by omega) hqk
  · try dsimp only
    walk_at "kf1"
    walk_at "tg"
    exact hR k p hko (by omega) (by omega) (by omega) hpk
end
end Kf
/-! Kno: places at which no step can be done; all places. -/
namespace Kf
open PySem PySem.Spec L2
open PyProof.Rows hiding St
/-! ### places compared -/
end Kf
namespace Kf
open PySem PySem.Spec L2
open PyProof.Rows hiding St
local macro_rules | `(tactic| walk_at "kf") => `(tactic| simp (config := { failIfUnchanged := false }) only [startD, ap_fiEnumT, asT1_t, ap_fKGet, asStr_s, ap_fKIn, ap_fKIx, ap_gAsgL, rUnl_l, ap_fiRng3, asR3_i, rSplitO_s, ap_fOrL, rOrL_l, ap_fLcK, ap_gForK, ap_fMaxD, rMaxD_l, rMaxL_l, ap_fCallXD, ap_gForE, asLE_l, ap_fFrz, ap_fDicO, ap_fDGet, ap_fDGet1, ap_fDGet2, ap_gDPut, ap_fIsiT, ap_gForR, rRep_l, isT_i, isT_s, isT_b, isT_n, isT_t, isT_l, ap_gSeq, ap_gIf, ap_gRet, ap_gNext, ap_gSet, ap_gAsg, ap_gPar, ap_gDrop, ap_gRetF, ap_gRetN, ap_gFor, ap_gSetIx, ap_gBreak, ap_fRev, ap_fiRevR, asIR_i, rRev_l, ap_fCallX, ap_gRaise, ap_gTry, ap_gTryAs, ap_gNever, ap_fEdic, ap_fTest, ap_fOp, ap_fVar, envGet_s, patGet_s, ap_fC, ap_fCB, ap_fCons, ap_fNil, ap_fCall, ap_fAnd, ap_fOr, ap_fNot, ap_fAndV, ap_fOrV, ap_fNotV, ap_fIf, ap_fTup, ap_fLst, ap_fLstO, ap_fChain, ap_fUn, ap_fBM, ap_fBM0, ap_fPool, rPool_i, ap_fSl, ap_fPart, ap_fNoPart, asI_i, rSl_l, ap_fiRng1, ap_fiRng2, ap_fiList, ap_fiTup, ap_fiStr, ap_fiEnum, ap_fiZip, ap_fiRev, asL_l, asT_t, asSg_s, asR1_i, asR2_i, asL1_l, asL2_l, ap_fLc, ap_fLcO, ap_fYes, wipeD, lcD, isi_i_int, isi_i_bool, isi_i_str, isi_i_tuple, isi_i_list, isi_i_dict, isi_b_int, isi_b_bool, isi_b_str, isi_b_tuple, isi_b_list, isi_b_dict, isi_s_int, isi_s_bool, isi_s_str, isi_s_tuple, isi_s_list, isi_s_dict, isi_t_int, isi_t_bool, isi_t_str, isi_t_tuple, isi_t_list, isi_t_dict, isi_l_int, isi_l_bool, isi_l_str, isi_l_tuple, isi_l_list, isi_l_dict, isi_n_int, isi_n_bool, isi_n_str, isi_n_tuple, isi_n_list, isi_n_dict, isi_d_int, isi_d_bool, isi_d_str, isi_d_tuple, isi_d_list, isi_d_dict,
  deref_tup, deref_lst, deref_int, deref_str, deref_bl, deref_non, deref_scr, rLt_i, rLt_s, rLe_i, rLe_s, rInts_i, rInts0_i, rAdd_i, rAdd_s, rAdd_l, rAdd_t, rCatO_l, rNeg_i, rLen_t, rLen_l, rLen_c, rLen_s, rMax_i, rMin_i, rInt_i, rInt_b, rDivmod_i, ap_gAug, rStr_i, rList_l, rList_t, rListO_l, rListO_t, rTup_l, rTup_t,
  rIx_t0, rIx_t1, rIx_t2, rIx_t3, rIx_l0, rIx_l1, rIx_l2, rIsN_x, isNon_t, isNon_n, isNon_i, isNon_s, isNon_l, rEq_i, rEq_b, rEq_i2, rEq_b2, rJoin_m, rSplit_s, tyOk_l, tyOk_s, patD_nm, patD_tp, patDs_nil, patDs_cons, Option.bind_some, notX, notX',
  List.map_cons, List.map_nil, List.length_cons, List.length_nil, List.cons_append, List.nil_append, List.append_nil, List.replicate, List.getElem?_cons_zero, List.getElem?_cons_succ, List.set_cons_zero, List.set_cons_succ, updO_same, updO_updO,
  Nat.reduceSub, Nat.reduceAdd, Nat.reduceLeDiff, Nat.zero_add, Int.cast_ofNat_Int, Int.natCast_zero, Int.natCast_one, Int.reduceLT, Int.reduceLE, Int.reduceEq, Int.reduceAdd, Int.reduceSub, Int.reduceNeg, decide_true, decide_false, if_true, if_false, Bool.false_eq_true, eq_self, reduceIte, Bool.true_eq_false, decide_eq_true_eq, Bool.not_true, Bool.not_false, Bool.not_eq_true', decide_eq_false_iff_not, exists_eq_left', exists_eq_left, D.bl.injEq, true_and, and_true, not_true_eq_false, not_false_eq_true])
local macro_rules | `(tactic| walk_at "len") => `(tactic| (intro ds O R RE h; first | (obtain ⟨e, _⟩ := h; subst e; rfl) | (obtain ⟨_, e, _⟩ := h; subst e; rfl) | (obtain ⟨_, _, e, _⟩ := h; subst e; rfl) | (obtain ⟨_, _, _, e, _⟩ := h; subst e; rfl) | (obtain ⟨_, _, _, _, e, _⟩ := h; subst e; rfl) | (obtain ⟨_, _, _, _, _, e, _⟩ := h; subst e; rfl) | (obtain ⟨_, _, _, _, _, _, e, _⟩ := h; subst e; rfl) | (obtain ⟨_, _, _, _, _, _, _, e, _⟩ := h; subst e; rfl) | (obtain ⟨_, _, _, _, _, _, _, _, e, _⟩ := h; subst e; rfl) | (obtain ⟨_, _, _, _, _, _, _, _, _, e, _⟩ := h; subst e; rfl)))
local macro_rules | `(tactic| walk_at "kf1") => `(tactic| simp (config := { failIfUnchanged := false }) only [startD, ap_fiEnumT, asT1_t, ap_fKGet, asStr_s, ap_fKIn, ap_fKIx, ap_gAsgL, rUnl_l, ap_fiRng3, asR3_i, rSplitO_s, ap_fOrL, rOrL_l, ap_fLcK, ap_gForK, ap_fMaxD, rMaxD_l, rMaxL_l, ap_fCallXD, ap_gForE, asLE_l, ap_fFrz, ap_fDicO, ap_fDGet, ap_fDGet1, ap_fDGet2, ap_gDPut, ap_fIsiT, ap_gForR, rRep_l, isT_i, isT_s, isT_b, isT_n, isT_t, isT_l, ap_gIf, ap_gRet, ap_gNext, ap_gSet, ap_gAsg, ap_gPar, ap_gDrop, ap_gRetF, ap_gRetN, ap_gFor, ap_gSetIx, ap_gBreak, ap_fRev, ap_fiRevR, asIR_i, rRev_l, ap_fCallX, ap_gRaise, ap_gTry, ap_gTryAs, ap_gNever, ap_fEdic, ap_fTest, ap_fOp, ap_fVar, envGet_s, patGet_s, ap_fC, ap_fCB, ap_fCons, ap_fNil, ap_fCall, ap_fAnd, ap_fOr, ap_fNot, ap_fAndV, ap_fOrV, ap_fNotV, ap_fIf, ap_fTup, ap_fLst, ap_fLstO, ap_fChain, ap_fUn, ap_fBM, ap_fBM0, ap_fPool, rPool_i, ap_fSl, ap_fPart, ap_fNoPart, asI_i, rSl_l, ap_fiRng1, ap_fiRng2, ap_fiList, ap_fiTup, ap_fiStr, ap_fiEnum, ap_fiZip, ap_fiRev, asL_l, asT_t, asSg_s, asR1_i, asR2_i, asL1_l, asL2_l, ap_fLc, ap_fLcO, ap_fYes, wipeD, lcD, isi_i_int, isi_i_bool, isi_i_str, isi_i_tuple, isi_i_list, isi_i_dict, isi_b_int, isi_b_bool, isi_b_str, isi_b_tuple, isi_b_list, isi_b_dict, isi_s_int, isi_s_bool, isi_s_str, isi_s_tuple, isi_s_list, isi_s_dict, isi_t_int, isi_t_bool, isi_t_str, isi_t_tuple, isi_t_list, isi_t_dict, isi_l_int, isi_l_bool, isi_l_str, isi_l_tuple, isi_l_list, isi_l_dict, isi_n_int, isi_n_bool, isi_n_str, isi_n_tuple, isi_n_list, isi_n_dict, isi_d_int, isi_d_bool, isi_d_str, isi_d_tuple, isi_d_list, isi_d_dict,
  deref_tup, deref_lst, deref_int, deref_str, deref_bl, deref_non, deref_scr, rLt_i, rLt_s, rLe_i, rLe_s, rInts_i, rInts0_i, rAdd_i, rAdd_s, rAdd_l, rAdd_t, rCatO_l, rNeg_i, rLen_t, rLen_l, rLen_c, rLen_s, rMax_i, rMin_i, rInt_i, rInt_b, rDivmod_i, ap_gAug, rStr_i, rList_l, rList_t, rListO_l, rListO_t, rTup_l, rTup_t,
  rIx_t0, rIx_t1, rIx_t2, rIx_t3, rIx_l0, rIx_l1, rIx_l2, rIsN_x, isNon_t, isNon_n, isNon_i, isNon_s, isNon_l, rEq_i, rEq_b, rEq_i2, rEq_b2, rJoin_m, rSplit_s, tyOk_l, tyOk_s, patD_nm, patD_tp, patDs_nil, patDs_cons, Option.bind_some, notX, notX',
  List.map_cons, List.map_nil, List.length_cons, List.length_nil, List.cons_append, List.nil_append, List.append_nil, List.replicate, List.getElem?_cons_zero, List.getElem?_cons_succ, List.set_cons_zero, List.set_cons_succ, updO_same, updO_updO,
  Nat.reduceSub, Nat.reduceAdd, Nat.reduceLeDiff, Nat.zero_add, Int.cast_ofNat_Int, Int.natCast_zero, Int.natCast_one, Int.reduceLT, Int.reduceLE, Int.reduceEq, Int.reduceAdd, Int.reduceSub, Int.reduceNeg, decide_true, decide_false, if_true, if_false, Bool.false_eq_true, eq_self, reduceIte, Bool.true_eq_false, decide_eq_true_eq, Bool.not_true, Bool.not_false, Bool.not_eq_true', decide_eq_false_iff_not, exists_eq_left', exists_eq_left, D.bl.injEq, true_and, and_true, not_true_eq_false, not_false_eq_true])
section
variable {P : Program} {w : World} {K : PySem.W.Frag} {mg : Str → Option Value} {base : Heap}
local macro_rules | `(tactic| walk_at "tg") => `(tactic| simp (config := { failIfUnchanged := false }) only [te_name_take, te_name_give, te_name_pair, te_name_first, te_name_second, te_name_to, te_name_both, te_name_one, te_name_mark, te_name_name, te_name_thing, te_name_at, te_thing_take, te_thing_give, te_thing_pair, te_thing_first, te_thing_second, te_thing_to, te_thing_both, te_thing_one, te_thing_mark, te_thing_name, te_thing_thing, te_thing_at, te_take_take, te_take_give, te_take_pair, te_take_first, te_take_second, te_take_to, te_take_both, te_take_one, te_take_mark, te_take_name, te_take_thing, te_take_at, te_give_take, te_give_give, te_give_pair, te_give_first, te_give_second, te_give_to, te_give_both, te_give_one, te_give_mark, te_give_name, te_give_thing, te_give_at, te_pair_take, te_pair_give, te_pair_pair, te_pair_first, te_pair_second, te_pair_to, te_pair_both, te_pair_one, te_pair_mark, te_pair_name, te_pair_thing, te_pair_at, te_first_take, te_first_give, te_first_pair, te_first_first, te_first_second, te_first_to, te_first_both, te_first_one, te_first_mark, te_first_name, te_first_thing, te_first_at, te_second_take, te_second_give, te_second_pair, te_second_first, te_second_second, te_second_to, te_second_both, te_second_one, te_second_mark, te_second_name, te_second_thing, te_second_at, te_mark_take, te_mark_give, te_mark_pair, te_mark_first, te_mark_second, te_mark_to, te_mark_both, te_mark_one, te_mark_mark, te_mark_name, te_mark_thing, te_mark_at, te_one_take, te_one_give, te_one_pair, te_one_first, te_one_second, te_one_to, te_one_both, te_one_one, te_one_mark, te_one_name, te_one_thing, te_one_at, te_to_take, te_to_give, te_to_pair, te_to_first, te_to_second, te_to_to, te_to_both, te_to_one, te_to_mark, te_to_name, te_to_thing, te_to_at, te_both_take, te_both_give, te_both_pair, te_both_first, te_both_second, te_both_to, te_both_both, te_both_one, te_both_mark, te_both_name, te_both_thing, te_both_at, te_at_take, te_at_give, te_at_pair, te_at_first, te_at_second, te_at_to, te_at_both, te_at_one, te_at_mark, te_at_name, te_at_thing, te_at_at, ti4_name, ti4_thing, ti4_take, ti4_give, ti4_pair, ti4_first, ti4_second, ti2_name, ti2_thing, ti2_take, ti2_give, ti2_pair, ti2_first, ti2_second, szT_0, szT_1, szT_2, szT_3, szT_4, szT_5, szT_6, szT_7, szT_8, szT_9, szT_10, szT_11, szT_12, Bool.not_true, Bool.not_false, true_and])
def spInnerO : DSp := fun ds O R _ => ∃ p : Pg, ds = [dP p] ∧ ∀ a, O a = none → R (.ref a) (updO O a (.lst (p.ins.map dP)))
theorem cut1_2 (a b : D) : cut [a, b] (some 1) none = [b] := by simp [cut, HT.sIx]
theorem cut1_3 (a b c : D) : cut [a, b, c] (some 1) none = [b, c] := by simp [cut, HT.sIx]
theorem sl1_2 {a b : D} {O : Ow} {Q : VD} : rSlD (.tup [a, b]) (some 1) none O Q = Q (.tup [b]) O := by
  rw [rSl_t (by simp [HT.sIx]), cut1_2]
theorem sl1_3 {a b c : D} {O : Ow} {Q : VD} : rSlD (.tup [a, b, c]) (some 1) none O Q = Q (.tup [b, c]) O := by
  rw [rSl_t (by simp [HT.sIx]), cut1_3]
theorem ok_innerO (T : Tx K mg) : FO_inner P w base T 1 spInnerO := by
  refine fnd_inner T (by walk_at "len") ?_
  rintro ds O R RE ⟨p, rfl, hR⟩
  unfold g_inner
  cases p <;> simp only [dP, Pg.ins] at hR ⊢ <;> walk_at "kf" <;> walk_at "tg" <;> walk_at "kf" <;> walk_at "tg" <;> walk_at "kf" <;> (try simp only [sl1_2, sl1_3]) <;> walk_at "kf" <;> walk_at "tg" <;> exact hR
theorem sw_gap : PyData.strOk (Str.ofString "gap") = true := by decide +kernel
theorem te_give_gap {neg : Bool} {O : Ow} {Q : VD} : rEqD neg (.str (Str.ofString "give")) (.str (Str.ofString "gap")) O Q = Q (.bl neg) O := by
  rw [rEq_s sw_give sw_gap, show decide (Str.ofString "give" = Str.ofString "gap") = false by decide +kernel]; cases neg <;> rfl
theorem te_first_gap {neg : Bool} {O : Ow} {Q : VD} : rEqD neg (.str (Str.ofString "first")) (.str (Str.ofString "gap")) O Q = Q (.bl neg) O := by
  rw [rEq_s sw_first sw_gap, show decide (Str.ofString "first" = Str.ofString "gap") = false by decide +kernel]; cases neg <;> rfl
theorem te_second_gap {neg : Bool} {O : Ow} {Q : VD} : rEqD neg (.str (Str.ofString "second")) (.str (Str.ofString "gap")) O Q = Q (.bl neg) O := by
  rw [rEq_s sw_second sw_gap, show decide (Str.ofString "second" = Str.ofString "gap") = false by decide +kernel]; cases neg <;> rfl
def spKnown : DSp := fun ds O R _ => ∃ (kn : List (Str × Kd)) (x : Str), ds = [.lst (kn.map kv), .str x] ∧ PyData.strOk x = true ∧ (∀ q ∈ kn, PyData.strOk q.1 = true) ∧ R (dKo (envOf kn x)) O
theorem known_loop {R0 : DEnds} {x : Str} {O : Ow} (a0 : Option D) (hx : PyData.strOk x = true) : ∀ (l : List (Str × Kd)) (x2 x3 : Option D), (∀ q ∈ l, PyData.strOk q.1 = true) → (∀ q, l.find? (fun q => decide (q.1 = x)) = some q → R0.rt (dK q.2) O) → (l.find? (fun q => decide (q.1 = x)) = none → ∀ x2 x3, R0.nx [a0, some (.str x), x2, x3] O) →
    forD (.tp [(.nm 2), (.nm 3)]) (gIf (fTest (fOp (rEqD false) (fVar 2) (fVar 1))) (gRet (fVar 3)) gNext) R0 (l.map kv) [a0, some (.str x), x2, x3] O
  | [], x2, x3, _, _, hn => hn rfl x2 x3
  | q :: l, x2, x3, hl, hs, hn => by
    rw [List.map_cons]
    unfold forD
    walk_at "kf1"
    rw [rEq_s (hl q List.mem_cons_self) hx]
    by_cases c : q.1 = x
    · simp only [c, decide_true, Bool.false_xor]
      walk_at "kf1"
      exact hs q (by simp [List.find?_cons, c])
    · simp only [c, decide_false, Bool.false_xor]
      walk_at "kf1"
      exact known_loop a0 hx l _ _ (fun q' h => hl q' (List.mem_cons_of_mem _ h)) (fun q' h => hs q' (by simpa [List.find?_cons, c] using h)) (fun h => hn (by simpa [List.find?_cons, c] using h))
theorem ok_known (T : Tx K mg) : FO_known_as P w base T 1 spKnown := by
  refine fnd_known_as T (by walk_at "len") ?_
  rintro ds O R RE ⟨kn, x, rfl, hx, hk, hR⟩
  unfold g_known_as
  refine gSeq_step ?_
  walk_at "kf1"
  rw [← List.map_reverse]
  refine known_loop _ hx kn.reverse _ _ (fun q h => hk q (List.mem_reverse.mp h)) (fun q h => ?_) (fun h x2 x3 => ?_)
  · unfold envOf at hR
    rw [h] at hR
    exact hR
  · unfold envOf at hR
    rw [h] at hR
    try dsimp only
    walk_at "kf1"
    exact hR
def spKHere : DSp := fun ds O R _ => ∃ (kn : List (Str × Kd)) (p : Pg) (ks : List Kd), ds = [.lst (kn.map kv), dP p, .lst (ks.map dK)] ∧ ks.length = p.ins.length ∧ p.sok = true ∧ (∀ q ∈ kn, PyData.strOk q.1 = true) ∧ (∀ k ∈ ks, k.ok = true ∧ k.depth ≤ 150) ∧ R (dKo (khere (envOf kn) p ks)) O
theorem ok_khere (T : Tx K mg) : FO_kind_here P w base T 2 spKHere := by
  refine fnd_kind_here T (ok_known T) (by walk_at "len") ?_
  rintro ds O R RE ⟨kn, p, ks, rfl, hl, hs, hk, hks, hR⟩
  unfold g_kind_here
  cases p with
  | nm x =>
    simp only [dP]
    walk_at "kf"; walk_at "tg"; walk_at "kf"
    exact ⟨kn, x, rfl, hs, hk, hR⟩
  | thing =>
    simp only [dP]
    walk_at "kf"; walk_at "tg"; walk_at "kf"; walk_at "tg"; walk_at "kf"; walk_at "tg"; walk_at "kf"; walk_at "tg"; walk_at "kf"
    exact hR
  | take x k b =>
    simp only [Pg.ins, List.length_singleton] at hl
    obtain ⟨r, rfl⟩ := List.length_eq_one_iff.mp hl
    simp only [dP]
    walk_at "kf"; walk_at "tg"; walk_at "kf"; walk_at "tg"; walk_at "kf"; walk_at "tg"
    exact hR
  | pair a b =>
    obtain ⟨r1, r2, rfl⟩ := len2 hl
    simp only [dP]
    walk_at "kf"; walk_at "tg"; walk_at "kf"; walk_at "tg"; walk_at "kf"; walk_at "tg"; walk_at "kf"; walk_at "tg"
    exact hR
  | give f a =>
    obtain ⟨r1, r2, rfl⟩ := len2 hl
    have h1 := hks r1 (by simp)
    have h2 := hks r2 (by simp)
    simp only [dP]
    walk_at "kf"; walk_at "tg"; walk_at "kf"; walk_at "tg"; walk_at "kf"; walk_at "tg"; walk_at "kf"; walk_at "tg"; walk_at "kf"; simp only [te_give_gap]; walk_at "kf"; walk_at "tg"; walk_at "kf"
    cases r1 with
    | to c k =>
      simp only [Kd.ok, Kd.depth, Bool.and_eq_true] at h1
      simp only [dK]
      walk_at "kf"; walk_at "tg"; walk_at "kf"
      rw [rEq_K h1.1.1 h2.1 (by omega)]
      by_cases e : c = r2
      · subst e
        simp only [khere, if_true] at hR
        simp only [decide_true, Bool.false_xor]
        walk_at "kf"
        exact hR
      · simp only [khere, if_neg e] at hR
        simp only [e, decide_false, Bool.false_xor]
        walk_at "kf"
        exact hR
    | _ =>
      simp only [dK]
      walk_at "kf"; walk_at "tg"; walk_at "kf"
      exact hR
  | first f =>
    simp only [Pg.ins, List.length_singleton] at hl
    obtain ⟨r, rfl⟩ := List.length_eq_one_iff.mp hl
    simp only [dP]
    walk_at "kf"; walk_at "tg"; walk_at "kf"; walk_at "tg"; walk_at "kf"; walk_at "tg"; walk_at "kf"; walk_at "tg"; walk_at "kf"; simp only [te_first_gap]; walk_at "kf"; walk_at "tg"; walk_at "kf"
    cases r <;> simp only [dK] <;> walk_at "kf" <;> walk_at "tg" <;> walk_at "kf" <;> (try walk_at "tg") <;> (try walk_at "kf") <;> exact hR
  | second f =>
    simp only [Pg.ins, List.length_singleton] at hl
    obtain ⟨r, rfl⟩ := List.length_eq_one_iff.mp hl
    simp only [dP]
    walk_at "kf"; walk_at "tg"; walk_at "kf"; walk_at "tg"; walk_at "kf"; walk_at "tg"; walk_at "kf"; walk_at "tg"; walk_at "kf"; simp only [te_second_gap]; walk_at "kf"; walk_at "tg"; walk_at "kf"
    cases r <;> simp only [dK] <;> walk_at "kf" <;> walk_at "tg" <;> walk_at "kf" <;> (try walk_at "tg") <;> (try walk_at "kf") <;> exact hR
structure KnOk (kn : List (Str × Kd)) : Prop where
  nm : ∀ q ∈ kn, PyData.strOk q.1 = true
  kd : ∀ q ∈ kn, q.2.ok = true ∧ q.2.depth ≤ 12
theorem KnOk.e {kn : List (Str × Kd)} (h : KnOk kn) : EOk (envOf kn) := fun x k q => h.kd (x, k) (envOf_mem q)
theorem KnOk.snoc {kn : List (Str × Kd)} (h : KnOk kn) {x : Str} {k : Kd} (hx : PyData.strOk x = true) (h1 : k.ok = true) (h2 : k.depth ≤ 12) : KnOk (kn ++ [(x, k)]) := by
  refine ⟨fun q hq => ?_, fun q hq => ?_⟩
  · rcases List.mem_append.mp hq with hq | hq
    · exact h.nm q hq
    · rw [List.mem_singleton.mp hq]; exact hx
  · rcases List.mem_append.mp hq with hq | hq
    · exact h.kd q hq
    · rw [List.mem_singleton.mp hq]; exact ⟨h1, h2⟩
end
end Kf
namespace Kf
open PySem PySem.Spec L2
open PyProof.Rows hiding St
/-! ### words -/
abbrev fig : Str := "0123456789"
/-! ### marks, numbers, names -/
def letB (c : Nat) : Bool := decide (c ∈ abc.cps.toList)
def figB (c : Nat) : Bool := decide (c ∈ fig.cps.toList)
def isMarkB (z : Str) : Bool := z.cps.toList.all letB && (decide (1 ≤ z.length) && decide (z.length ≤ 6))
def isNumB (z : Str) : Bool := z.cps.toList.all figB && (decide (z.cps.toList = [48]) || (!decide (z.cps.toList = []) && !decide (z.cps.toList.head? = some 48)))
def isNameB (z : Str) : Bool := isMarkB z || (decide (cut z.cps.toList none (some 1) = [120]) && (decide (z.length ≤ 3) && isNumB (cutS z (some 1) none)))
end Kf
namespace Kf
open PySem PySem.Spec L2
open PyProof.Rows hiding St
/-! ### things that may be kinds -/
def strB : D → Bool
  | .str s => isMarkB s
  | _ => false
def hf : Nat → D → Bool
  | 0, _ => false
  | _ + 1, .tup [x] => deq x (.str "one")
  | _ + 1, .tup [x, y] => deq x (.str "mark") && strB y
  | n + 1, .tup [x, y, z] => (deq x (.str "to") || deq x (.str "both")) && (hf n y && hf n z)
  | _, _ => false
end Kf
/-! Ktx: texts of kinds. -/
namespace Kf
open PySem PySem.Spec L2
open PyProof.Rows hiding St
/-! ### joining and splitting -/
/-! ### kinds by words -/
def Kd.mks (k : Kd) : Prop := ∀ m ∈ k.marks, isMarkB m = true
/-! ### reading -/
def sg (s : Str) : Option (Kd → Kd → Kd) := if s = "->" then some .to else if s = "*" then some .both else none
/-- a leaf's word -/
def lfw (w : Str) : Option Kd := if w = "1" then some .one else if isMarkB w = true then some (.mk w) else none
def kp : Nat → List Str → Option (Kd × List Str)
  | _, [] => none
  | 0, w :: r => (lfw w).map fun k => (k, r)
  | n + 1, w :: r => match lfw w with
    | some k => some (k, r)
    | none => if w = "(" then match kp n r with
        | some (a, s :: r2) => match sg s with
          | some f => match kp n r2 with
            | some (b, c :: r3) => if c = ")" then some (f a b, r3) else none
            | _ => none
          | none => none
        | _ => none
      else none
end Kf
/-! Kpp: texts of programs. -/
namespace Kf
open PySem PySem.Spec L2
open PyProof.Rows hiding St
/-- programs, gaps too -/
inductive Pq where
  | nm (x : Str) | thing | gap (k : Kd) | take (x : Str) (k : Kd) (b : Pq) | give (f a : Pq) | pair (a b : Pq) | first (p : Pq) | second (p : Pq)
  deriving DecidableEq, Inhabited
def Pg.q : Pg → Pq
  | .nm x => .nm x
  | .thing => .thing
  | .take x k b => .take x k b.q
  | .give f a => .give f.q a.q
  | .pair f a => .pair f.q a.q
  | .first p => .first p.q
  | .second p => .second p.q
def Pq.ins : Pq → List Pq
  | .take _ _ b => [b]
  | .give f a => [f, a]
  | .pair a b => [a, b]
  | .first p => [p]
  | .second p => [p]
  | _ => []
def Pq.hgt : Pq → Nat
  | .take _ _ b => b.hgt + 1
  | .give f a => max f.hgt a.hgt + 1
  | .pair a b => max a.hgt b.hgt + 1
  | .first p => p.hgt + 1
  | .second p => p.hgt + 1
  | _ => 0
def Pq.sz : Pq → Nat
  | .take _ _ b => b.sz + 1
  | .give f a => f.sz + a.sz + 1
  | .pair a b => a.sz + b.sz + 1
  | .first p => p.sz + 1
  | .second p => p.sz + 1
  | _ => 1
/-- a kind as is_kind lets by -/
def Kd.kk (k : Kd) : Prop := k.mks ∧ k.depth ≤ 12 ∧ k.leaves ≤ 24
/-! ### words -/
/-! ### names are words -/
/-! ### reading -/
/-- halves behind a program -/
def hlv : Pq → List Str → Pq × List Str
  | q, [] => (q, [])
  | q, w :: r => if w = Str.ofString ".1" then hlv (.first q) r else if w = Str.ofString ".2" then hlv (.second q) r else (q, w :: r)
/-- a kind within a program's text -/
def kpk (l : List Str) : Option (Kd × List Str) := match kp 12 l with
  | some (k, r) => if k.leaves ≤ 24 then some (k, r) else none
  | none => none
abbrev Rd := List Str → Option (Pq × List Str)
def gapF (l : List Str) : Option (Pq × List Str) := match kpk l with
  | some (k, c :: r) => if c = Str.ofString "]" then some (.gap k, r) else none
  | _ => none
def aft (am : Str) (r : List Str) : Option (List Str) := if am = Str.ofString "" then some r else match r with
  | c :: r1 => if c = am then some r1 else none
  | [] => none
def twoF (pf : Rd) (con : Pq → Pq → Pq) (am en : Str) (l : List Str) : Option (Pq × List Str) := match pf l with
  | some (a, r) => match aft am r with
    | some r1 => match pf r1 with
      | some (b, c :: r2) => if c = en then some (con a b, r2) else none
      | _ => none
    | none => none
  | none => none
/-- behind the colon -/
def takeF (pf : Rd) (x : Str) (l : List Str) : Option (Pq × List Str) := match kpk l with
  | some (k, c :: r2) => if c = Str.ofString "=>" then match pf r2 with
      | some (b, d :: r3) => if d = Str.ofString ")" then some (.take x k b, r3) else none
      | _ => none
    else none
  | _ => none
def tkh : List Str → Bool
  | x :: c :: _ => isNameB x && decide (c = Str.ofString ":")
  | _ => false
def hlo (x : Option (Pq × List Str)) : Option (Pq × List Str) := x.map fun y => hlv y.1 y.2
def opF (pf : Rd) (l : List Str) : Option (Pq × List Str) := if tkh l then takeF pf (l.headD (Str.ofString "")) (l.drop 2) else twoF pf .give (Str.ofString "") (Str.ofString ")") l
def bgF (pf : Rd) : List Str → Option (Pq × List Str)
  | [] => none
  | w :: r => if w = Str.ofString "#" then some (.thing, r) else if isNameB w = true then some (.nm w, r) else if w = Str.ofString "[" then gapF r
    else if w = Str.ofString "{" then twoF pf .pair (Str.ofString ",") (Str.ofString "}") r else if w = Str.ofString "(" then opF pf r else none
def pb : Nat → List Str → Option (Pq × List Str)
  | 0, _ => none
  | n + 1, l => bgF (fun l => hlo (pb n l)) l
def pf (n : Nat) (l : List Str) : Option (Pq × List Str) := hlo (pb n l)
/-! ### a program's words are read -/
/-! ### how many parts are left -/
end Kf
/-! Kgv: drawn programs, with a bound B for the kinds' leaves; every part's kind has at most 2 * B. -/
namespace Kf
open PySem PySem.Spec L2
open PyProof.Rows hiding St
structure RowV (B : Nat) (kn : List (Str × Kd)) : Prop where
  nm : ∀ q ∈ kn, q.1 ∈ UN ∧ q.2.over AB ∧ q.2.leaves ≤ B
  ep : envOf kn "p" = some (.mk "a")
  eq : envOf kn "q" = some (.mk "b")
theorem RowV.snoc {B : Nat} {kn : List (Str × Kd)} (h : RowV B kn) {x : Str} {k : Kd} (hx : x ∈ TN) (ho : k.over AB) (hl : k.leaves ≤ B) : RowV B (kn ++ [(x, k)]) := by
  obtain ⟨h1, h2, h3⟩ := tn_un x hx
  refine ⟨fun q hq => ?_, ?_, ?_⟩
  · rcases List.mem_append.mp hq with hq | hq
    · exact h.nm q hq
    · rw [List.mem_singleton.mp hq]; exact ⟨h1, ho, hl⟩
  · rw [envOf_snoc, if_neg h2]; exact h.ep
  · rw [envOf_snoc, if_neg h3]; exact h.eq
theorem RowV.mono {B C : Nat} {kn : List (Str × Kd)} (h : RowV B kn) (hb : B ≤ C) : RowV C kn :=
  ⟨fun q hq => ⟨(h.nm q hq).1, (h.nm q hq).2.1, Nat.le_trans (h.nm q hq).2.2 hb⟩, h.ep, h.eq⟩
def pgv (B : Nat) : Pg → Prop
  | .nm x => x ∈ UN
  | .thing => True
  | .take x k b => x ∈ TN ∧ k.over AB ∧ k.leaves ≤ B ∧ pgv B b
  | .give f a => pgv B f ∧ pgv B a
  | .pair f a => pgv B f ∧ pgv B a
  | .first p => pgv B p
  | .second p => pgv B p
/-- kinds of all parts, and each small -/
def hasS (B : Nat) : (Str → Option Kd) → Pg → Kd → Prop
  | e, .nm x, k => e x = some k ∧ k.leaves ≤ 2 * B
  | _, .thing, k => k = .one
  | e, .take x a b, k => ∃ r, k = .to a r ∧ k.leaves ≤ 2 * B ∧ hasS B (fun y => if x = y then some a else e y) b r
  | e, .give f a, k => ∃ c, hasS B e f (.to c k) ∧ hasS B e a c
  | e, .pair a b, k => ∃ c d, k = .both c d ∧ k.leaves ≤ 2 * B ∧ hasS B e a c ∧ hasS B e b d
  | e, .first p, k => ∃ d, hasS B e p (.both k d)
  | e, .second p, k => ∃ c, hasS B e p (.both c k)
theorem hs_has {B : Nat} : ∀ (p : Pg) (e : Str → Option Kd) (k : Kd), hasS B e p k → hasK e p k
  | .nm _, _, _, h => h.1
  | .thing, _, _, h => h
  | .take x a b, e, k, ⟨r, h1, _, h2⟩ => ⟨r, h1, hs_has b _ r h2⟩
  | .give f a, e, k, ⟨c, h1, h2⟩ => ⟨c, hs_has f e _ h1, hs_has a e _ h2⟩
  | .pair f a, e, k, ⟨c, d, h0, _, h1, h2⟩ => ⟨c, d, h0, hs_has f e _ h1, hs_has a e _ h2⟩
  | .first p, e, k, ⟨d, h⟩ => ⟨d, hs_has p e _ h⟩
  | .second p, e, k, ⟨d, h⟩ => ⟨d, hs_has p e _ h⟩
theorem pgv_ok {B : Nat} : ∀ (p : Pg), pgv B p → p.sok = true ∧ p.dpt ≤ p.hgt + B + 2
  | .nm x, h => ⟨un_ok x h, by simp only [Pg.dpt]; omega⟩
  | .thing, _ => ⟨rfl, by simp only [Pg.dpt]; omega⟩
  | .take x k b, h => by
    obtain ⟨h1, h2, h3, h4⟩ := h
    have ih := pgv_ok b h4
    have := k.depth_lt
    simp only [Pg.sok, Pg.dpt, Pg.hgt, un_ok x (tn_un x h1).1, over_ok ab_ok k h2, ih.1, Bool.and_self, true_and]
    omega
  | .give f a, h => by
    have h1 := pgv_ok f h.1
    have h2 := pgv_ok a h.2
    simp only [Pg.sok, Pg.dpt, Pg.hgt, h1.1, h2.1, Bool.and_self, true_and]
    omega
  | .pair f a, h => by
    have h1 := pgv_ok f h.1
    have h2 := pgv_ok a h.2
    simp only [Pg.sok, Pg.dpt, Pg.hgt, h1.1, h2.1, Bool.and_self, true_and]
    omega
  | .first p, h => by
    have h1 := pgv_ok p h
    simp only [Pg.sok, Pg.dpt, Pg.hgt, h1.1, true_and]
    omega
  | .second p, h => by
    have h1 := pgv_ok p h
    simp only [Pg.sok, Pg.dpt, Pg.hgt, h1.1, true_and]
    omega
theorem pgv_ka {B : Nat} (hB : B ≤ 12) : ∀ p : Pg, pgv B p → p.ka
  | .nm _, _ => trivial
  | .thing, _ => trivial
  | .take x k b, h => by
    obtain ⟨h1, h2, h3, h4⟩ := h
    have := k.depth_lt
    exact ⟨over_ok ab_ok k h2, by omega, pgv_ka hB b h4⟩
  | .give f a, h => ⟨pgv_ka hB f h.1, pgv_ka hB a h.2⟩
  | .pair f a, h => ⟨pgv_ka hB f h.1, pgv_ka hB a h.2⟩
  | .first p, h => pgv_ka hB p h
  | .second p, h => pgv_ka hB p h
end Kf
/-! Kkb: kinds reckoned from the parts up, all parts of a program, a part put in. -/
namespace Kf
open PySem PySem.Spec L2
open PyProof.Rows hiding St
/-! ### kinds from the parts up -/
def kfin (e : Str → Option Kd) (p : Pg) (ks : List Kd) (pl : List Int) : Except (List Int) Kd := match khere e p ks with
  | some k => .ok k
  | none => .error pl
def kby : (Str → Option Kd) → Pg → List Int → Except (List Int) Kd
  | e, .nm x, pl => kfin e (.nm x) [] pl
  | _, .thing, _ => .ok .one
  | e, .take x a b, pl => match kby (fun y => if x = y then some a else e y) b (pl ++ [0]) with
    | .ok r => .ok (.to a r)
    | .error w => .error w
  | e, .give f a, pl => match kby e f (pl ++ [0]) with
    | .error w => .error w
    | .ok c => match kby e a (pl ++ [1]) with
      | .error w => .error w
      | .ok d => kfin e (.give f a) [c, d] pl
  | e, .pair f a, pl => match kby e f (pl ++ [0]) with
    | .error w => .error w
    | .ok c => match kby e a (pl ++ [1]) with
      | .error w => .error w
      | .ok d => kfin e (.pair f a) [c, d] pl
  | e, .first p, pl => match kby e p (pl ++ [0]) with
    | .error w => .error w
    | .ok c => kfin e (.first p) [c] pl
  | e, .second p, pl => match kby e p (pl ++ [0]) with
    | .error w => .error w
    | .ok c => kfin e (.second p) [c] pl
theorem kby_has : ∀ (p : Pg) (e : Str → Option Kd) (k : Kd) (pl : List Int), hasK e p k → kby e p pl = .ok k
  | .nm x, e, k, pl, h => by simp only [kby, kfin, khere, show e x = some k from h]
  | .thing, e, k, pl, h => by rw [show k = .one from h]; rfl
  | .take x a b, e, k, pl, ⟨r, e1, h⟩ => by simp only [kby, kby_has b _ r _ h, e1]
  | .give f a, e, k, pl, ⟨c, h1, h2⟩ => by simp only [kby, kby_has f e _ _ h1, kby_has a e _ _ h2, kfin, khere, if_true]
  | .pair f a, e, k, pl, ⟨c, d, e1, h1, h2⟩ => by simp only [kby, kby_has f e _ _ h1, kby_has a e _ _ h2, kfin, khere, e1]
  | .first p, e, k, pl, ⟨d, h⟩ => by simp only [kby, kby_has p e _ _ h, kfin, khere]
  | .second p, e, k, pl, ⟨d, h⟩ => by simp only [kby, kby_has p e _ _ h, kfin, khere]
theorem kfin_ok {e : Str → Option Kd} {p : Pg} {ks : List Kd} {pl : List Int} {k : Kd} (h : kfin e p ks pl = .ok k) : khere e p ks = some k := by
  unfold kfin at h
  split at h
  · cases h; assumption
  · cases h
theorem kby_ok : ∀ (p : Pg) (e : Str → Option Kd) (k : Kd) (pl : List Int), kby e p pl = .ok k → hasK e p k
  | .nm x, e, k, pl, h => kfin_ok h
  | .thing, e, k, pl, h => by cases h; rfl
  | .take x a b, e, k, pl, h => by
    unfold kby at h
    split at h
    · rename_i r e1; cases h; exact ⟨r, rfl, kby_ok b _ r _ e1⟩
    · cases h
  | .give f a, e, k, pl, h => by
    unfold kby at h
    split at h
    · cases h
    · rename_i c e1
      split at h
      · cases h
      · rename_i d e2
        have h3 := kfin_ok h
        have i1 := kby_ok f e c _ e1
        have i2 := kby_ok a e d _ e2
        cases c with
        | to c1 c2 =>
          simp only [khere] at h3
          split at h3
          · rename_i e3; cases h3; subst e3; exact ⟨c1, i1, i2⟩
          · cases h3
        | _ => cases h3
  | .pair f a, e, k, pl, h => by
    unfold kby at h
    split at h
    · cases h
    · rename_i c e1
      split at h
      · cases h
      · rename_i d e2
        have h3 := kfin_ok h
        cases h3
        exact ⟨c, d, rfl, kby_ok f e c _ e1, kby_ok a e d _ e2⟩
  | .first p, e, k, pl, h => by
    unfold kby at h
    split at h
    · cases h
    · rename_i c e1
      have h3 := kfin_ok h
      have i1 := kby_ok p e c _ e1
      cases c with
      | both a b => cases h3; exact ⟨b, i1⟩
      | _ => cases h3
  | .second p, e, k, pl, h => by
    unfold kby at h
    split at h
    · cases h
    · rename_i c e1
      have h3 := kfin_ok h
      have i1 := kby_ok p e c _ e1
      cases c with
      | both a b => cases h3; exact ⟨a, i1⟩
      | _ => cases h3
/-! ### the row's last one of a name -/
theorem envOf_last (kn : List (Str × Kd)) (x : Str) : envOf kn x = ((kn.filter fun q => decide (q.1 = x)).map (·.2)).getLast? := by
  unfold envOf
  rw [← List.head?_filter, List.filter_reverse, List.head?_reverse, List.getLast?_map]
/-! ### all parts -/
abbrev Wk := Pg × List (Str × Kd) × List Int
def walkd : Pg → List (Str × Kd) → List Int → List Wk
  | .nm x, kn, pl => [(.nm x, kn, pl)]
  | .thing, kn, pl => [(.thing, kn, pl)]
  | .take x a b, kn, pl => (.take x a b, kn, pl) :: walkd b (kn ++ [(x, a)]) (pl ++ [0])
  | .give f a, kn, pl => (.give f a, kn, pl) :: (walkd f kn (pl ++ [0]) ++ walkd a kn (pl ++ [1]))
  | .pair f a, kn, pl => (.pair f a, kn, pl) :: (walkd f kn (pl ++ [0]) ++ walkd a kn (pl ++ [1]))
  | .first p, kn, pl => (.first p, kn, pl) :: walkd p kn (pl ++ [0])
  | .second p, kn, pl => (.second p, kn, pl) :: walkd p kn (pl ++ [0])
theorem walkd_len : ∀ (p : Pg) (kn : List (Str × Kd)) (pl : List Int), (walkd p kn pl).length = p.psz
  | .nm _, _, _ => rfl
  | .thing, _, _ => rfl
  | .take x a b, kn, pl => by simp only [walkd, List.length_cons, walkd_len b, Pg.psz]
  | .give f a, kn, pl => by simp only [walkd, List.length_cons, List.length_append, walkd_len f, walkd_len a, Pg.psz]
  | .pair f a, kn, pl => by simp only [walkd, List.length_cons, List.length_append, walkd_len f, walkd_len a, Pg.psz]
  | .first p, kn, pl => by simp only [walkd, List.length_cons, walkd_len p, Pg.psz]
  | .second p, kn, pl => by simp only [walkd, List.length_cons, walkd_len p, Pg.psz]
/-- what is known of a part -/
structure WkOk (B : Nat) (p : Pg) (kn : List (Str × Kd)) (pl : List Int) (t : Wk) (r : List Int) : Prop where
  pl : t.2.2 = pl ++ r
  pt : partAt p r = some t.1
  hg : t.1.hgt + r.length ≤ p.hgt
  sz : t.1.psz ≤ p.psz
  ln : t.2.1.length ≤ kn.length + r.length
  pg : pgv B p → pgv B t.1
  rw : RowV B kn → pgv B p → RowV B t.2.1
  ks : ∀ k, hasS B (envOf kn) p k → ∃ k', hasS B (envOf t.2.1) t.1 k' ∧ ∀ o, hasK (envOf t.2.1) o k' → hasK (envOf kn) (withPart p r o) k
theorem wk_here (B : Nat) (p : Pg) (kn : List (Str × Kd)) (pl : List Int) : WkOk B p kn pl (p, kn, pl) [] :=
  ⟨by simp, by cases p <;> rfl, by simp, Nat.le_refl _, by simp, id, fun h _ => h, fun k h => ⟨k, h, fun o ho => by cases p <;> exact ho⟩⟩
theorem wk_all {B : Nat} : ∀ (p : Pg) (kn : List (Str × Kd)) (pl : List Int) (t : Wk), t ∈ walkd p kn pl → ∃ r, WkOk B p kn pl t r
  | .nm x, kn, pl, t, h => by rw [List.mem_singleton.mp h]; exact ⟨[], wk_here B _ kn pl⟩
  | .thing, kn, pl, t, h => by rw [List.mem_singleton.mp h]; exact ⟨[], wk_here B _ kn pl⟩
  | .take x a b, kn, pl, t, h => by
    rcases List.mem_cons.mp h with rfl | h
    · exact ⟨[], wk_here B _ kn pl⟩
    · obtain ⟨r, w⟩ := wk_all (B := B) b _ _ t h
      refine ⟨0 :: r, by rw [w.pl]; simp, by simpa [partAt] using w.pt, ?_, ?_, ?_, fun h => w.pg h.2.2.2, fun h1 h2 => w.rw (h1.snoc h2.1 h2.2.1 h2.2.2.1) h2.2.2.2, fun k hk => ?_⟩
      · have := w.hg; simp only [Pg.hgt, List.length_cons]; omega
      · have := w.sz; simp only [Pg.psz]; omega
      · have := w.ln; simp only [List.length_append, List.length_cons, List.length_nil] at this ⊢; omega
      · obtain ⟨q, e1, _, h1⟩ := hk
        obtain ⟨k', h2, h3⟩ := w.ks q (by rw [envOf_ext]; exact h1)
        refine ⟨k', h2, fun o ho => ⟨q, e1, ?_⟩⟩
        have := h3 o ho
        rw [envOf_ext] at this
        exact this
  | .give f a, kn, pl, t, h => by
    rcases List.mem_cons.mp h with rfl | h
    · exact ⟨[], wk_here B _ kn pl⟩
    · rcases List.mem_append.mp h with h | h
      · obtain ⟨r, w⟩ := wk_all (B := B) f _ _ t h
        refine ⟨0 :: r, by rw [w.pl]; simp, by simpa [partAt] using w.pt, ?_, ?_, ?_, fun h => w.pg h.1, fun h1 h2 => w.rw h1 h2.1, fun k hk => ?_⟩
        · have := w.hg; simp only [Pg.hgt, List.length_cons]; omega
        · have := w.sz; simp only [Pg.psz]; omega
        · have := w.ln; simp only [List.length_cons]; omega
        · obtain ⟨q, h1, h2⟩ := hk
          obtain ⟨k', h3, h4⟩ := w.ks _ h1
          refine ⟨k', h3, fun o ho => ?_⟩
          simp only [withPart, if_true]
          exact ⟨q, h4 o ho, hs_has a _ _ h2⟩
      · obtain ⟨r, w⟩ := wk_all (B := B) a _ _ t h
        refine ⟨1 :: r, by rw [w.pl]; simp, by simpa [partAt] using w.pt, ?_, ?_, ?_, fun h => w.pg h.2, fun h1 h2 => w.rw h1 h2.2, fun k hk => ?_⟩
        · have := w.hg; simp only [Pg.hgt, List.length_cons]; omega
        · have := w.sz; simp only [Pg.psz]; omega
        · have := w.ln; simp only [List.length_cons]; omega
        · obtain ⟨q, h1, h2⟩ := hk
          obtain ⟨k', h3, h4⟩ := w.ks _ h2
          refine ⟨k', h3, fun o ho => ?_⟩
          simp only [withPart, Int.reduceEq, if_false]
          exact ⟨q, hs_has f _ _ h1, h4 o ho⟩
  | .pair f a, kn, pl, t, h => by
    rcases List.mem_cons.mp h with rfl | h
    · exact ⟨[], wk_here B _ kn pl⟩
    · rcases List.mem_append.mp h with h | h
      · obtain ⟨r, w⟩ := wk_all (B := B) f _ _ t h
        refine ⟨0 :: r, by rw [w.pl]; simp, by simpa [partAt] using w.pt, ?_, ?_, ?_, fun h => w.pg h.1, fun h1 h2 => w.rw h1 h2.1, fun k hk => ?_⟩
        · have := w.hg; simp only [Pg.hgt, List.length_cons]; omega
        · have := w.sz; simp only [Pg.psz]; omega
        · have := w.ln; simp only [List.length_cons]; omega
        · obtain ⟨q, q2, e1, _, h1, h2⟩ := hk
          obtain ⟨k', h3, h4⟩ := w.ks _ h1
          refine ⟨k', h3, fun o ho => ?_⟩
          simp only [withPart, if_true]
          exact ⟨q, q2, e1, h4 o ho, hs_has a _ _ h2⟩
      · obtain ⟨r, w⟩ := wk_all (B := B) a _ _ t h
        refine ⟨1 :: r, by rw [w.pl]; simp, by simpa [partAt] using w.pt, ?_, ?_, ?_, fun h => w.pg h.2, fun h1 h2 => w.rw h1 h2.2, fun k hk => ?_⟩
        · have := w.hg; simp only [Pg.hgt, List.length_cons]; omega
        · have := w.sz; simp only [Pg.psz]; omega
        · have := w.ln; simp only [List.length_cons]; omega
        · obtain ⟨q, q2, e1, _, h1, h2⟩ := hk
          obtain ⟨k', h3, h4⟩ := w.ks _ h2
          refine ⟨k', h3, fun o ho => ?_⟩
          simp only [withPart, Int.reduceEq, if_false]
          exact ⟨q, q2, e1, hs_has f _ _ h1, h4 o ho⟩
  | .first p, kn, pl, t, h => by
    rcases List.mem_cons.mp h with rfl | h
    · exact ⟨[], wk_here B _ kn pl⟩
    · obtain ⟨r, w⟩ := wk_all (B := B) p _ _ t h
      refine ⟨0 :: r, by rw [w.pl]; simp, by simpa [partAt] using w.pt, ?_, ?_, ?_, fun h => w.pg h, fun h1 h2 => w.rw h1 h2, fun k hk => ?_⟩
      · have := w.hg; simp only [Pg.hgt, List.length_cons]; omega
      · have := w.sz; simp only [Pg.psz]; omega
      · have := w.ln; simp only [List.length_cons]; omega
      · obtain ⟨q, h1⟩ := hk
        obtain ⟨k', h3, h4⟩ := w.ks _ h1
        exact ⟨k', h3, fun o ho => ⟨q, h4 o ho⟩⟩
  | .second p, kn, pl, t, h => by
    rcases List.mem_cons.mp h with rfl | h
    · exact ⟨[], wk_here B _ kn pl⟩
    · obtain ⟨r, w⟩ := wk_all (B := B) p _ _ t h
      refine ⟨0 :: r, by rw [w.pl]; simp, by simpa [partAt] using w.pt, ?_, ?_, ?_, fun h => w.pg h, fun h1 h2 => w.rw h1 h2, fun k hk => ?_⟩
      · have := w.hg; simp only [Pg.hgt, List.length_cons]; omega
      · have := w.sz; simp only [Pg.psz]; omega
      · have := w.ln; simp only [List.length_cons]; omega
      · obtain ⟨q, h1⟩ := hk
        obtain ⟨k', h3, h4⟩ := w.ks _ h1
        exact ⟨k', h3, fun o ho => ⟨q, h4 o ho⟩⟩
/-! ### a part put in -/
theorem wp_pgv {C : Nat} {o : Pg} (ho : pgv C o) : ∀ (p : Pg) (r : List Int), pgv C p → pgv C (withPart p r o) ∧ (withPart p r o).hgt ≤ p.hgt + o.hgt + r.length ∧ (withPart p r o).psz ≤ p.psz + o.psz
  | p, [], h => by
    have : withPart p [] o = o := by cases p <;> rfl
    rw [this]; exact ⟨ho, by omega, by omega⟩
  | .nm x, i :: r, h => ⟨h, by simp only [withPart, Pg.hgt]; omega, by simp only [withPart, Pg.psz]; omega⟩
  | .thing, i :: r, h => ⟨h, by simp only [withPart, Pg.hgt]; omega, by simp only [withPart, Pg.psz]; omega⟩
  | .take x a b, i :: r, h => by
    have := wp_pgv ho b r h.2.2.2
    exact ⟨⟨h.1, h.2.1, h.2.2.1, this.1⟩, by simp only [withPart, Pg.hgt, List.length_cons]; omega, by simp only [withPart, Pg.psz]; omega⟩
  | .give f a, i :: r, h => by
    have h1 := wp_pgv ho f r h.1
    have h2 := wp_pgv ho a r h.2
    simp only [withPart]
    split
    · exact ⟨⟨h1.1, h.2⟩, by simp only [Pg.hgt, List.length_cons]; omega, by simp only [Pg.psz]; omega⟩
    · exact ⟨⟨h.1, h2.1⟩, by simp only [Pg.hgt, List.length_cons]; omega, by simp only [Pg.psz]; omega⟩
  | .pair f a, i :: r, h => by
    have h1 := wp_pgv ho f r h.1
    have h2 := wp_pgv ho a r h.2
    simp only [withPart]
    split
    · exact ⟨⟨h1.1, h.2⟩, by simp only [Pg.hgt, List.length_cons]; omega, by simp only [Pg.psz]; omega⟩
    · exact ⟨⟨h.1, h2.1⟩, by simp only [Pg.hgt, List.length_cons]; omega, by simp only [Pg.psz]; omega⟩
  | .first p, i :: r, h => by
    have := wp_pgv ho p r h
    exact ⟨this.1, by simp only [withPart, Pg.hgt, List.length_cons]; omega, by simp only [withPart, Pg.psz]; omega⟩
  | .second p, i :: r, h => by
    have := wp_pgv ho p r h
    exact ⟨this.1, by simp only [withPart, Pg.hgt, List.length_cons]; omega, by simp only [withPart, Pg.psz]; omega⟩
end Kf
namespace Kf
open PySem PySem.Spec L2
open PyProof.Rows hiding St
local macro_rules | `(tactic| walk_at "kf") => `(tactic| simp (config := { failIfUnchanged := false }) only [startD, ap_fiEnumT, asT1_t, ap_fKGet, asStr_s, ap_fKIn, ap_fKIx, ap_gAsgL, rUnl_l, ap_fiRng3, asR3_i, rSplitO_s, ap_fOrL, rOrL_l, ap_fLcK, ap_gForK, ap_fMaxD, rMaxD_l, rMaxL_l, ap_fCallXD, ap_gForE, asLE_l, ap_fFrz, ap_fDicO, ap_fDGet, ap_fDGet1, ap_fDGet2, ap_gDPut, ap_fIsiT, ap_gForR, rRep_l, isT_i, isT_s, isT_b, isT_n, isT_t, isT_l, ap_gSeq, ap_gIf, ap_gRet, ap_gNext, ap_gSet, ap_gAsg, ap_gPar, ap_gDrop, ap_gRetF, ap_gRetN, ap_gFor, ap_gSetIx, ap_gBreak, ap_fRev, ap_fiRevR, asIR_i, rRev_l, ap_fCallX, ap_gRaise, ap_gTry, ap_gTryAs, ap_gNever, ap_fEdic, ap_fTest, ap_fOp, ap_fVar, envGet_s, patGet_s, ap_fC, ap_fCB, ap_fCons, ap_fNil, ap_fCall, ap_fAnd, ap_fOr, ap_fNot, ap_fAndV, ap_fOrV, ap_fNotV, ap_fIf, ap_fTup, ap_fLst, ap_fLstO, ap_fChain, ap_fUn, ap_fBM, ap_fBM0, ap_fPool, rPool_i, ap_fSl, ap_fPart, ap_fNoPart, asI_i, rSl_l, ap_fiRng1, ap_fiRng2, ap_fiList, ap_fiTup, ap_fiStr, ap_fiEnum, ap_fiZip, ap_fiRev, asL_l, asT_t, asSg_s, asR1_i, asR2_i, asL1_l, asL2_l, ap_fLc, ap_fLcO, ap_fYes, wipeD, lcD, isi_i_int, isi_i_bool, isi_i_str, isi_i_tuple, isi_i_list, isi_i_dict, isi_b_int, isi_b_bool, isi_b_str, isi_b_tuple, isi_b_list, isi_b_dict, isi_s_int, isi_s_bool, isi_s_str, isi_s_tuple, isi_s_list, isi_s_dict, isi_t_int, isi_t_bool, isi_t_str, isi_t_tuple, isi_t_list, isi_t_dict, isi_l_int, isi_l_bool, isi_l_str, isi_l_tuple, isi_l_list, isi_l_dict, isi_n_int, isi_n_bool, isi_n_str, isi_n_tuple, isi_n_list, isi_n_dict, isi_d_int, isi_d_bool, isi_d_str, isi_d_tuple, isi_d_list, isi_d_dict,
  deref_tup, deref_lst, deref_int, deref_str, deref_bl, deref_non, deref_scr, rLt_i, rLt_s, rLe_i, rLe_s, rInts_i, rInts0_i, rAdd_i, rAdd_s, rAdd_l, rAdd_t, rCatO_l, rNeg_i, rLen_t, rLen_l, rLen_c, rLen_s, rMax_i, rMin_i, rInt_i, rInt_b, rDivmod_i, ap_gAug, rStr_i, rList_l, rList_t, rListO_l, rListO_t, rTup_l, rTup_t,
  rIx_t0, rIx_t1, rIx_t2, rIx_t3, rIx_l0, rIx_l1, rIx_l2, rIsN_x, isNon_t, isNon_n, isNon_i, isNon_s, isNon_l, rEq_i, rEq_b, rEq_i2, rEq_b2, rJoin_m, rSplit_s, tyOk_l, tyOk_s, patD_nm, patD_tp, patDs_nil, patDs_cons, Option.bind_some, notX, notX',
  List.map_cons, List.map_nil, List.length_cons, List.length_nil, List.cons_append, List.nil_append, List.append_nil, List.replicate, List.getElem?_cons_zero, List.getElem?_cons_succ, List.set_cons_zero, List.set_cons_succ, updO_same, updO_updO,
  Nat.reduceSub, Nat.reduceAdd, Nat.reduceLeDiff, Nat.zero_add, Int.cast_ofNat_Int, Int.natCast_zero, Int.natCast_one, Int.reduceLT, Int.reduceLE, Int.reduceEq, Int.reduceAdd, Int.reduceSub, Int.reduceNeg, decide_true, decide_false, if_true, if_false, Bool.false_eq_true, eq_self, reduceIte, Bool.true_eq_false, decide_eq_true_eq, Bool.not_true, Bool.not_false, Bool.not_eq_true', decide_eq_false_iff_not, exists_eq_left', exists_eq_left, D.bl.injEq, true_and, and_true, not_true_eq_false, not_false_eq_true])
local macro_rules | `(tactic| walk_at "len") => `(tactic| (intro ds O R RE h; first | (obtain ⟨e, _⟩ := h; subst e; rfl) | (obtain ⟨_, e, _⟩ := h; subst e; rfl) | (obtain ⟨_, _, e, _⟩ := h; subst e; rfl) | (obtain ⟨_, _, _, e, _⟩ := h; subst e; rfl) | (obtain ⟨_, _, _, _, e, _⟩ := h; subst e; rfl) | (obtain ⟨_, _, _, _, _, e, _⟩ := h; subst e; rfl) | (obtain ⟨_, _, _, _, _, _, e, _⟩ := h; subst e; rfl) | (obtain ⟨_, _, _, _, _, _, _, e, _⟩ := h; subst e; rfl) | (obtain ⟨_, _, _, _, _, _, _, _, e, _⟩ := h; subst e; rfl) | (obtain ⟨_, _, _, _, _, _, _, _, _, e, _⟩ := h; subst e; rfl)))
local macro_rules | `(tactic| walk_at "kf1") => `(tactic| simp (config := { failIfUnchanged := false }) only [startD, ap_fiEnumT, asT1_t, ap_fKGet, asStr_s, ap_fKIn, ap_fKIx, ap_gAsgL, rUnl_l, ap_fiRng3, asR3_i, rSplitO_s, ap_fOrL, rOrL_l, ap_fLcK, ap_gForK, ap_fMaxD, rMaxD_l, rMaxL_l, ap_fCallXD, ap_gForE, asLE_l, ap_fFrz, ap_fDicO, ap_fDGet, ap_fDGet1, ap_fDGet2, ap_gDPut, ap_fIsiT, ap_gForR, rRep_l, isT_i, isT_s, isT_b, isT_n, isT_t, isT_l, ap_gIf, ap_gRet, ap_gNext, ap_gSet, ap_gAsg, ap_gPar, ap_gDrop, ap_gRetF, ap_gRetN, ap_gFor, ap_gSetIx, ap_gBreak, ap_fRev, ap_fiRevR, asIR_i, rRev_l, ap_fCallX, ap_gRaise, ap_gTry, ap_gTryAs, ap_gNever, ap_fEdic, ap_fTest, ap_fOp, ap_fVar, envGet_s, patGet_s, ap_fC, ap_fCB, ap_fCons, ap_fNil, ap_fCall, ap_fAnd, ap_fOr, ap_fNot, ap_fAndV, ap_fOrV, ap_fNotV, ap_fIf, ap_fTup, ap_fLst, ap_fLstO, ap_fChain, ap_fUn, ap_fBM, ap_fBM0, ap_fPool, rPool_i, ap_fSl, ap_fPart, ap_fNoPart, asI_i, rSl_l, ap_fiRng1, ap_fiRng2, ap_fiList, ap_fiTup, ap_fiStr, ap_fiEnum, ap_fiZip, ap_fiRev, asL_l, asT_t, asSg_s, asR1_i, asR2_i, asL1_l, asL2_l, ap_fLc, ap_fLcO, ap_fYes, wipeD, lcD, isi_i_int, isi_i_bool, isi_i_str, isi_i_tuple, isi_i_list, isi_i_dict, isi_b_int, isi_b_bool, isi_b_str, isi_b_tuple, isi_b_list, isi_b_dict, isi_s_int, isi_s_bool, isi_s_str, isi_s_tuple, isi_s_list, isi_s_dict, isi_t_int, isi_t_bool, isi_t_str, isi_t_tuple, isi_t_list, isi_t_dict, isi_l_int, isi_l_bool, isi_l_str, isi_l_tuple, isi_l_list, isi_l_dict, isi_n_int, isi_n_bool, isi_n_str, isi_n_tuple, isi_n_list, isi_n_dict, isi_d_int, isi_d_bool, isi_d_str, isi_d_tuple, isi_d_list, isi_d_dict,
  deref_tup, deref_lst, deref_int, deref_str, deref_bl, deref_non, deref_scr, rLt_i, rLt_s, rLe_i, rLe_s, rInts_i, rInts0_i, rAdd_i, rAdd_s, rAdd_l, rAdd_t, rCatO_l, rNeg_i, rLen_t, rLen_l, rLen_c, rLen_s, rMax_i, rMin_i, rInt_i, rInt_b, rDivmod_i, ap_gAug, rStr_i, rList_l, rList_t, rListO_l, rListO_t, rTup_l, rTup_t,
  rIx_t0, rIx_t1, rIx_t2, rIx_t3, rIx_l0, rIx_l1, rIx_l2, rIsN_x, isNon_t, isNon_n, isNon_i, isNon_s, isNon_l, rEq_i, rEq_b, rEq_i2, rEq_b2, rJoin_m, rSplit_s, tyOk_l, tyOk_s, patD_nm, patD_tp, patDs_nil, patDs_cons, Option.bind_some, notX, notX',
  List.map_cons, List.map_nil, List.length_cons, List.length_nil, List.cons_append, List.nil_append, List.append_nil, List.replicate, List.getElem?_cons_zero, List.getElem?_cons_succ, List.set_cons_zero, List.set_cons_succ, updO_same, updO_updO,
  Nat.reduceSub, Nat.reduceAdd, Nat.reduceLeDiff, Nat.zero_add, Int.cast_ofNat_Int, Int.natCast_zero, Int.natCast_one, Int.reduceLT, Int.reduceLE, Int.reduceEq, Int.reduceAdd, Int.reduceSub, Int.reduceNeg, decide_true, decide_false, if_true, if_false, Bool.false_eq_true, eq_self, reduceIte, Bool.true_eq_false, decide_eq_true_eq, Bool.not_true, Bool.not_false, Bool.not_eq_true', decide_eq_false_iff_not, exists_eq_left', exists_eq_left, D.bl.injEq, true_and, and_true, not_true_eq_false, not_false_eq_true])
section
variable {P : Program} {w : World} {K : PySem.W.Frag} {mg : Str → Option Value} {base : Heap}
local macro_rules | `(tactic| walk_at "tg") => `(tactic| simp (config := { failIfUnchanged := false }) only [te_name_take, te_name_give, te_name_pair, te_name_first, te_name_second, te_name_to, te_name_both, te_name_one, te_name_mark, te_name_name, te_name_thing, te_name_at, te_thing_take, te_thing_give, te_thing_pair, te_thing_first, te_thing_second, te_thing_to, te_thing_both, te_thing_one, te_thing_mark, te_thing_name, te_thing_thing, te_thing_at, te_take_take, te_take_give, te_take_pair, te_take_first, te_take_second, te_take_to, te_take_both, te_take_one, te_take_mark, te_take_name, te_take_thing, te_take_at, te_give_take, te_give_give, te_give_pair, te_give_first, te_give_second, te_give_to, te_give_both, te_give_one, te_give_mark, te_give_name, te_give_thing, te_give_at, te_pair_take, te_pair_give, te_pair_pair, te_pair_first, te_pair_second, te_pair_to, te_pair_both, te_pair_one, te_pair_mark, te_pair_name, te_pair_thing, te_pair_at, te_first_take, te_first_give, te_first_pair, te_first_first, te_first_second, te_first_to, te_first_both, te_first_one, te_first_mark, te_first_name, te_first_thing, te_first_at, te_second_take, te_second_give, te_second_pair, te_second_first, te_second_second, te_second_to, te_second_both, te_second_one, te_second_mark, te_second_name, te_second_thing, te_second_at, te_mark_take, te_mark_give, te_mark_pair, te_mark_first, te_mark_second, te_mark_to, te_mark_both, te_mark_one, te_mark_mark, te_mark_name, te_mark_thing, te_mark_at, te_one_take, te_one_give, te_one_pair, te_one_first, te_one_second, te_one_to, te_one_both, te_one_one, te_one_mark, te_one_name, te_one_thing, te_one_at, te_to_take, te_to_give, te_to_pair, te_to_first, te_to_second, te_to_to, te_to_both, te_to_one, te_to_mark, te_to_name, te_to_thing, te_to_at, te_both_take, te_both_give, te_both_pair, te_both_first, te_both_second, te_both_to, te_both_both, te_both_one, te_both_mark, te_both_name, te_both_thing, te_both_at, te_at_take, te_at_give, te_at_pair, te_at_first, te_at_second, te_at_to, te_at_both, te_at_one, te_at_mark, te_at_name, te_at_thing, te_at_at, ti4_name, ti4_thing, ti4_take, ti4_give, ti4_pair, ti4_first, ti4_second, ti2_name, ti2_thing, ti2_take, ti2_give, ti2_pair, ti2_first, ti2_second, szT_0, szT_1, szT_2, szT_3, szT_4, szT_5, szT_6, szT_7, szT_8, szT_9, szT_10, szT_11, szT_12, Bool.not_true, Bool.not_false, true_and])
theorem ap_rxAt {RX : XW} {ρ ρ' : DEnv} {cls : Value} {fs : Option (List (Str × D))} {O : Ow} : rxAt RX ρ cls fs ρ' O = RX cls fs ρ O := rfl
theorem upd_keep {O : Ow} {a c : Addr} {v w : Cell} (h : O a = some v) (hc : O c = none) : updO O c w a = some v := by
  rw [updO_ne (fun e => by rw [e, hc] at h; cases h)]; exact h
theorem rCatO_r {a : Addr} {xs ys : List D} {O : Ow} {Q : VD} (h : O a = some (.lst xs)) : rCatO (.ref a) (.lst ys) O Q = (xs.length + ys.length ≤ sizeLine ∧ ∀ p, O p = none → Q (.ref p) (updO O p (.lst (xs ++ ys)))) := by simp only [rCatO, deref, h]
local macro_rules | `(tactic| walk_at "kx") => `(tactic| (walk_at "kf1"; simp (config := { failIfUnchanged := false }) only [ap_fLcX, ap_fLcXO, ap_gRaiseI, ap_rxAt]; walk_at "kf1"))
/-- how a reckoning may end: told, or refused with the place, in a list of its own -/
def outK (C : Addr) (S : Addr → Prop) (e : Except (List Int) Kd) (O : Ow) (R : VD) (RE : XD) : Prop := (∀ k, e = .ok k → R (dK k) O) ∧ (∀ w, e = .error w → ∀ b O', S b → Sub O O' → O' b = some (.lst (w.map .int)) → RE (.ref C) (some [(Str.ofString "place", .ref b)]) O')
def kfold (e : Str → Option Kd) (p : Pg) (pl : List Int) : List Pg → Nat → List Kd → Except (List Int) Kd
  | [], _, ks => kfin e p ks pl
  | q :: qs, i, ks => match kby e q (pl ++ [(i : Int)]) with
    | .error w => .error w
    | .ok k => kfold e p pl qs (i + 1) (ks ++ [k])
def spKwX (C : Addr) (n : Nat) : DSp := fun ds O R RE => ∃ (kn : List (Str × Kd)) (p : Pg) (pl : List Int) (a : Addr), ds = [.lst (kn.map kv), dP p, .ref a] ∧ O a = some (.lst (pl.map .int)) ∧ p.hgt < n ∧ KnOk kn ∧ p.sok = true ∧ p.ka ∧ p.hgt ≤ 120 ∧ kn.length + p.hgt ≤ 1000 ∧ pl.length + p.hgt ≤ 1000 ∧ outK C (fun b => b = a ∨ O b = none) (kby (envOf kn) p pl) O R RE
theorem isNon_dK (k : Kd) : isNon (dK k) = false := by cases k <;> rfl
theorem kfold_give (e : Str → Option Kd) (f a : Pg) (pl : List Int) : kfold e (.give f a) pl [f, a] 0 [] = kby e (.give f a) pl := by
  simp only [kfold, kby, List.nil_append, List.cons_append, Int.natCast_zero, Int.natCast_one, Nat.zero_add] <;> (rcases kby e f (pl ++ [0]) with w | c <;> first | rfl | (rcases kby e a (pl ++ [1]) with w | d <;> rfl))
theorem kfold_pair (e : Str → Option Kd) (f a : Pg) (pl : List Int) : kfold e (.pair f a) pl [f, a] 0 [] = kby e (.pair f a) pl := by
  simp only [kfold, kby, List.nil_append, List.cons_append, Int.natCast_zero, Int.natCast_one, Nat.zero_add] <;> (rcases kby e f (pl ++ [0]) with w | c <;> first | rfl | (rcases kby e a (pl ++ [1]) with w | d <;> rfl))
theorem kfold_first (e : Str → Option Kd) (f : Pg) (pl : List Int) : kfold e (.first f) pl [f] 0 [] = kby e (.first f) pl := by
  simp only [kfold, kby, List.nil_append, Int.natCast_zero] <;> (rcases kby e f (pl ++ [0]) with w | c <;> rfl)
theorem kfold_second (e : Str → Option Kd) (f : Pg) (pl : List Int) : kfold e (.second f) pl [f] 0 [] = kby e (.second f) pl := by
  simp only [kfold, kby, List.nil_append, Int.natCast_zero] <;> (rcases kby e f (pl ++ [0]) with w | c <;> rfl)
theorem kfold_take (kn : List (Str × Kd)) (x : Str) (k : Kd) (b : Pg) (pl : List Int) : kfold (envOf (kn ++ [(x, k)])) (.take x k b) pl [b] 0 [] = kby (envOf kn) (.take x k b) pl := by
  simp only [kfold, kby, List.nil_append, Int.natCast_zero, envOf_ext] <;> (cases kby (fun y => if x = y then some k else envOf kn y) b (pl ++ [0]) <;> rfl)
theorem ok_kwX (T : Tx K mg) : ∀ n, FO_kind_within P w base T (n + 3) (spKwX T.C_NoFit n)
  | 0 => fnUp (none_left fun ds O R RE ⟨kn, p, pl, a, _, _, h, _⟩ => by omega) (Nat.zero_le _)
  | n + 1 => by
    refine fnd_kind_within T (fnUp (ok_innerO T) (by omega)) (ok_kwX T n) (fnUp (ok_khere T) (by omega)) (by omega) (by walk_at "len") ?_
    rintro ds O R RE ⟨kn, p, pl, a, rfl, ha, hn, hkn, hs, hka, h120, hl, hpl, hout⟩
    unfold g_kind_within
    have rest : ∀ (kn' : List (Str × Kd)), KnOk kn' → kn'.length + p.hgt ≤ 1001 → outK T.C_NoFit (fun b => b = a ∨ O b = none) (kfold (envOf kn') p pl p.ins 0 []) O R RE → (∀ q ∈ p.ins, q.ka) → ∀ x3 x4 x5 x6,
        (gSeq (gSet (fLcX (fiEnum (fCons (fFrz (fCall spInnerO (fCons (fVar 1) fNil))) fNil)) (.tp [(.nm 5), (.nm 6)]) fYes (fun RX => (fCallX (spKwX T.C_NoFit n) RX (fCons (fVar 0) (fCons (fVar 6) (fCons (fOp rCatO (fVar 2) (fLst (fCons (fVar 5) fNil))) fNil))))) [5, 6] (XG RE)) 3) (gSeq (gSet (fCall spKHere (fCons (fVar 0) (fCons (fVar 1) (fCons (fVar 3) fNil)))) 4) (gSeq (gIf (fTest (fOp (rIsN false) (fVar 4) (fC .non))) (gRaiseI (XG RE) T.C_NoFit "place" (fCons (fVar 2) fNil)) gNext) (gRet (fVar 4))))) { nx := fun _ O' => VG R .non O', rt := VG R } [some (.lst (kn'.map kv)), some (dP p), some (.ref a), x3, x4, x5, x6] O := by
      intro kn' hkn' hl' hout ka_in x3 x4 x5 x6
      have fin : ∀ (ks : List Kd) (O2 : Ow), Sub O O2 → O2 a = some (.lst (pl.map .int)) → ks.length = p.ins.length → (∀ k ∈ ks, k.ok = true ∧ k.depth ≤ 150) → outK T.C_NoFit (fun b => b = a ∨ O b = none) (kfin (envOf kn') p ks pl) O R RE → ∀ x4 x5 x6,
          gSeq (gSet (fCall spKHere (fCons (fVar 0) (fCons (fVar 1) (fCons (fVar 3) fNil)))) 4) (gSeq (gIf (fTest (fOp (rIsN false) (fVar 4) (fC .non))) (gRaiseI (XG RE) T.C_NoFit (Str.ofString "place") (fCons (fVar 2) fNil)) gNext) (gRet (fVar 4))) { nx := fun _ O' => VG R .non O', rt := VG R } [some (.lst (kn'.map kv)), some (dP p), some (.ref a), some (.lst (ks.map dK)), x4, x5, x6] O2 := by
        intro ks O2 hsb ha2 hks hkd ho x4 x5 x6
        refine gSeq_step ?_
        walk_at "kf1"
        refine ⟨kn', p, ks, rfl, hks, hs, hkn'.nm, hkd, ?_⟩
        cases e : khere (envOf kn') p ks with
        | none =>
          simp only [dKo]
          refine gSeq_step ?_
          walk_at "kx"
          exact ⟨_, rfl, O2, Sub.refl _, ho.2 pl (by simp only [kfin, e]) a O2 (.inl rfl) hsb ha2⟩
        | some k =>
          simp only [dKo]
          refine gSeq_step ?_
          walk_at "kx"
          rw [isNon_dK]
          walk_at "kx"
          exact ⟨O, hsb, ho.1 k (by simp only [kfin, e])⟩
      have call : ∀ (q : Pg) (i : Int) (O2 : Ow) (R' : VD) (RE' : XD), q ∈ p.ins → Sub O O2 → O2 a = some (.lst (pl.map .int)) → (∀ k c, O2 c = none → kby (envOf kn') q (pl ++ [i]) = .ok k → R' (dK k) (updO O2 c (.lst ((pl ++ [i]).map .int)))) →
          (∀ w, kby (envOf kn') q (pl ++ [i]) = .error w → ∀ b O', (b = a ∨ O b = none) → Sub O O' → O' b = some (.lst (w.map .int)) → RE' (.ref T.C_NoFit) (some [(Str.ofString "place", .ref b)]) O') → rCatO (.ref a) (.lst [.int i]) O2 (fun d O3 => spKwX T.C_NoFit n [.lst (kn'.map kv), dP q, d] O3 R' RE') := by
        intro q i O2 R' RE' hq hsb ha2 h1 h2
        have h3 := ins_hgt hq
        have h4 := ins_ok hq hs
        rw [rCatO_r ha2]
        refine ⟨sz_21 (by rw [List.length_map]; simp only [List.length_cons, List.length_nil]; omega), fun c hc => ⟨kn', q, pl ++ [i], c, rfl, by rw [updO_same, List.map_append]; rfl, by omega, hkn', h4.1, ka_in q hq, by omega, by omega, by rw [List.length_append, List.length_singleton]; omega, fun k hk => ?_, fun w hw b O' hb0 hsb' hb => h2 w hw b O' (.inr ?_) (hsb.trans ((sub_upd hc).trans hsb')) hb⟩⟩
        · have := h1 k c hc hk
          rw [List.map_append] at this
          exact this
        · have nn : ∀ y, O2 y = none → O y = none := fun y hy => by
            cases e : O y with
            | none => rfl
            | some v => rw [hsb y v e] at hy; cases hy
          refine nn b ?_
          rcases hb0 with rfl | hb0
          · exact hc
          · by_cases z : b = c
            · rw [z]; exact hc
            · rw [updO_ne z] at hb0; exact hb0
      have kdo : ∀ (q : Pg) (i : Int) (k : Kd), q ∈ p.ins → kby (envOf kn') q (pl ++ [i]) = .ok k → k.ok = true ∧ k.depth ≤ 150 := fun q i k hq hk => by
        have := kd_has q _ k (kby_ok q _ k _ hk) hkn'.e (ka_in q hq)
        have h3 := ins_hgt hq
        exact ⟨this.1, by omega⟩
      refine gSeq_step ?_
      walk_at "kx"
      refine ⟨p, rfl, fun fz hfz => ?_⟩
      try dsimp only
      rw [rFrz_u hfz]
      walk_at "kx"
      rcases ins_cases p with hi | ⟨x, hi⟩ | ⟨x, y, hi⟩ <;> rw [hi] at hout ⊢ <;> simp only [List.map_cons, List.map_nil, enum0, enum1, enum2]
      · walk_at "kx"
        exact fin [] O (Sub.refl _) ha (by rw [hi]; rfl) (fun _ h => nomatch h) hout _ _ _
      · have hxi : x ∈ p.ins := by rw [hi]; exact List.mem_cons_self
        simp only [kfold, Int.natCast_zero] at hout
        walk_at "kx"
        walk_at "tg"
        refine call x 0 O _ _ hxi (Sub.refl _) ha (fun k c hc hk => ⟨by decide, ?_⟩) (fun w hw b O' hb0 hsb hb => ?_)
        · rw [hk] at hout
          walk_at "kx"
          exact fin [k] _ (sub_upd hc) (upd_keep ha hc) (by rw [hi]; rfl) (fun k' h => by rw [List.mem_singleton.mp h]; exact kdo x 0 k hxi hk) hout _ _ _
        · rw [hw] at hout
          exact ⟨O', Sub.refl _, hout.2 w rfl b O' hb0 hsb hb⟩
      · have hxi : x ∈ p.ins := by rw [hi]; exact List.mem_cons_self
        have hyi : y ∈ p.ins := by rw [hi]; exact List.mem_cons_of_mem _ List.mem_cons_self
        simp only [kfold, Int.natCast_zero, Nat.zero_add, Int.natCast_one] at hout
        walk_at "kx"
        walk_at "tg"
        refine call x 0 O _ _ hxi (Sub.refl _) ha (fun k c hc hk => ⟨by decide, ?_⟩) (fun w hw b O' hb0 hsb hb => ?_)
        · rw [hk] at hout
          walk_at "kx"
          walk_at "tg"
          refine call y 1 _ _ _ hyi (sub_upd hc) (upd_keep ha hc) (fun k2 c2 hc2 hk2 => ⟨by decide, ?_⟩) (fun w hw b O' hb0 hsb hb => ?_)
          · dsimp only at hout
            rw [hk2] at hout
            walk_at "kx"
            exact fin [k, k2] _ ((sub_upd hc).trans (sub_upd hc2)) (upd_keep (upd_keep ha hc) hc2) (by rw [hi]; rfl) (fun k' h => by
              simp only [List.mem_cons, List.not_mem_nil, or_false] at h
              rcases h with rfl | rfl
              · exact kdo x 0 _ hxi hk
              · exact kdo y 1 _ hyi hk2) hout _ _ _
          · dsimp only at hout
            rw [hw] at hout
            exact ⟨O', Sub.refl _, hout.2 w rfl b O' hb0 hsb hb⟩
        · rw [hw] at hout
          exact ⟨O', Sub.refl _, hout.2 w rfl b O' hb0 hsb hb⟩
    refine gSeq_step ?_
    cases p with
    | nm x =>
      simp only [dP]
      walk_at "kf1"; walk_at "tg"; walk_at "kf1"
      exact rest kn hkn (by omega) hout (fun q hq => by simp [Pg.ins] at hq) _ _ _ _
    | thing =>
      simp only [dP]
      walk_at "kf1"; walk_at "tg"; walk_at "kf1"
      exact rest kn hkn (by omega) hout (fun q hq => by simp [Pg.ins] at hq) _ _ _ _
    | take x k b =>
      simp only [Pg.sok, Bool.and_eq_true] at hs
      have hk2 := hkn.snoc hs.1.1 hka.1 hka.2.1
      simp only [dP]
      walk_at "kf1"; walk_at "tg"; walk_at "kf1"; walk_at "tg"
      refine ⟨sz_21 (by rw [List.length_map]; omega), ?_⟩
      have e2 : kn.map kv ++ [D.tup [.str x, dK k]] = (kn ++ [(x, k)]).map kv := by rw [List.map_append]; rfl
      rw [e2]
      refine rest _ hk2 (by rw [List.length_append, List.length_singleton]; omega) (by rw [show (Pg.take x k b).ins = [b] from rfl, kfold_take]; exact hout) (fun q hq => by rw [List.mem_singleton.mp hq]; exact hka.2.2) _ _ _ _
    | give f c =>
      simp only [dP]
      walk_at "kf1"; walk_at "tg"; walk_at "kf1"
      exact rest kn hkn (by omega) (by rw [show (Pg.give f c).ins = [f, c] from rfl, kfold_give]; exact hout) (fun q hq => by
        simp only [Pg.ins, List.mem_cons, List.not_mem_nil, or_false] at hq
        rcases hq with rfl | rfl
        · exact hka.1
        · exact hka.2) _ _ _ _
    | pair f c =>
      simp only [dP]
      walk_at "kf1"; walk_at "tg"; walk_at "kf1"
      exact rest kn hkn (by omega) (by rw [show (Pg.pair f c).ins = [f, c] from rfl, kfold_pair]; exact hout) (fun q hq => by
        simp only [Pg.ins, List.mem_cons, List.not_mem_nil, or_false] at hq
        rcases hq with rfl | rfl
        · exact hka.1
        · exact hka.2) _ _ _ _
    | first f =>
      simp only [dP]
      walk_at "kf1"; walk_at "tg"; walk_at "kf1"
      exact rest kn hkn (by omega) (by rw [show (Pg.first f).ins = [f] from rfl, kfold_first]; exact hout) (fun q hq => by rw [List.mem_singleton.mp hq]; exact hka) _ _ _ _
    | second f =>
      simp only [dP]
      walk_at "kf1"; walk_at "tg"; walk_at "kf1"
      exact rest kn hkn (by omega) (by rw [show (Pg.second f).ins = [f] from rfl, kfold_second]; exact hout) (fun q hq => by rw [List.mem_singleton.mp hq]; exact hka) _ _ _ _
def spKindX (C : Addr) : DSp := fun ds O R RE => ∃ (x : D) (kn : List (Str × Kd)) (p : Pg), ds = [x, dP p] ∧ x = .lst (kn.map kv) ∧ KnOk kn ∧ p.sok = true ∧ p.ka ∧ p.hgt ≤ 110 ∧ kn.length ≤ 100 ∧ outK C (fun b => O b = none) (kby (envOf kn) p []) O R RE
theorem ok_kindX (T : Tx K mg) : FO_kind_of P w base T 115 (spKindX T.C_NoFit) := by
  refine fnd_kind_of T (ok_kwX T 111) (by walk_at "len") ?_
  rintro ds O R RE ⟨_, kn, p, rfl, rfl, hkn, hs, hka, hl, hkl, hout⟩
  unfold g_kind_of
  walk_at "kx"
  walk_at "tg"
  intro a ha
  exact ⟨kn, p, [], a, rfl, updO_same, by omega, hkn, hs, hka, by omega, by omega, by simp only [List.length_nil]; omega, fun k hk => ⟨O, sub_upd ha, hout.1 k hk⟩, fun w hw b O' hb0 hsb hb => ⟨O', Sub.refl _, hout.2 w hw b O' (hb0.elim (fun z => z ▸ ha) fun z => by by_cases y : b = a; exact y ▸ ha; rwa [updO_ne y] at z) ((sub_upd ha).trans hsb) hb⟩⟩
end
end Kf
namespace Kf
open PySem PySem.Spec L2
open PyProof.Rows hiding St
local macro_rules | `(tactic| walk_at "kf") => `(tactic| simp (config := { failIfUnchanged := false }) only [startD, ap_fiEnumT, asT1_t, ap_fKGet, asStr_s, ap_fKIn, ap_fKIx, ap_gAsgL, rUnl_l, ap_fiRng3, asR3_i, rSplitO_s, ap_fOrL, rOrL_l, ap_fLcK, ap_gForK, ap_fMaxD, rMaxD_l, rMaxL_l, ap_fCallXD, ap_gForE, asLE_l, ap_fFrz, ap_fDicO, ap_fDGet, ap_fDGet1, ap_fDGet2, ap_gDPut, ap_fIsiT, ap_gForR, rRep_l, isT_i, isT_s, isT_b, isT_n, isT_t, isT_l, ap_gSeq, ap_gIf, ap_gRet, ap_gNext, ap_gSet, ap_gAsg, ap_gPar, ap_gDrop, ap_gRetF, ap_gRetN, ap_gFor, ap_gSetIx, ap_gBreak, ap_fRev, ap_fiRevR, asIR_i, rRev_l, ap_fCallX, ap_gRaise, ap_gTry, ap_gTryAs, ap_gNever, ap_fEdic, ap_fTest, ap_fOp, ap_fVar, envGet_s, patGet_s, ap_fC, ap_fCB, ap_fCons, ap_fNil, ap_fCall, ap_fAnd, ap_fOr, ap_fNot, ap_fAndV, ap_fOrV, ap_fNotV, ap_fIf, ap_fTup, ap_fLst, ap_fLstO, ap_fChain, ap_fUn, ap_fBM, ap_fBM0, ap_fPool, rPool_i, ap_fSl, ap_fPart, ap_fNoPart, asI_i, rSl_l, ap_fiRng1, ap_fiRng2, ap_fiList, ap_fiTup, ap_fiStr, ap_fiEnum, ap_fiZip, ap_fiRev, asL_l, asT_t, asSg_s, asR1_i, asR2_i, asL1_l, asL2_l, ap_fLc, ap_fLcO, ap_fYes, wipeD, lcD, isi_i_int, isi_i_bool, isi_i_str, isi_i_tuple, isi_i_list, isi_i_dict, isi_b_int, isi_b_bool, isi_b_str, isi_b_tuple, isi_b_list, isi_b_dict, isi_s_int, isi_s_bool, isi_s_str, isi_s_tuple, isi_s_list, isi_s_dict, isi_t_int, isi_t_bool, isi_t_str, isi_t_tuple, isi_t_list, isi_t_dict, isi_l_int, isi_l_bool, isi_l_str, isi_l_tuple, isi_l_list, isi_l_dict, isi_n_int, isi_n_bool, isi_n_str, isi_n_tuple, isi_n_list, isi_n_dict, isi_d_int, isi_d_bool, isi_d_str, isi_d_tuple, isi_d_list, isi_d_dict,
  deref_tup, deref_lst, deref_int, deref_str, deref_bl, deref_non, deref_scr, rLt_i, rLt_s, rLe_i, rLe_s, rInts_i, rInts0_i, rAdd_i, rAdd_s, rAdd_l, rAdd_t, rCatO_l, rNeg_i, rLen_t, rLen_l, rLen_c, rLen_s, rMax_i, rMin_i, rInt_i, rInt_b, rDivmod_i, ap_gAug, rStr_i, rList_l, rList_t, rListO_l, rListO_t, rTup_l, rTup_t,
  rIx_t0, rIx_t1, rIx_t2, rIx_t3, rIx_l0, rIx_l1, rIx_l2, rIsN_x, isNon_t, isNon_n, isNon_i, isNon_s, isNon_l, rEq_i, rEq_b, rEq_i2, rEq_b2, rJoin_m, rSplit_s, tyOk_l, tyOk_s, patD_nm, patD_tp, patDs_nil, patDs_cons, Option.bind_some, notX, notX',
  List.map_cons, List.map_nil, List.length_cons, List.length_nil, List.cons_append, List.nil_append, List.append_nil, List.replicate, List.getElem?_cons_zero, List.getElem?_cons_succ, List.set_cons_zero, List.set_cons_succ, updO_same, updO_updO,
  Nat.reduceSub, Nat.reduceAdd, Nat.reduceLeDiff, Nat.zero_add, Int.cast_ofNat_Int, Int.natCast_zero, Int.natCast_one, Int.reduceLT, Int.reduceLE, Int.reduceEq, Int.reduceAdd, Int.reduceSub, Int.reduceNeg, decide_true, decide_false, if_true, if_false, Bool.false_eq_true, eq_self, reduceIte, Bool.true_eq_false, decide_eq_true_eq, Bool.not_true, Bool.not_false, Bool.not_eq_true', decide_eq_false_iff_not, exists_eq_left', exists_eq_left, D.bl.injEq, true_and, and_true, not_true_eq_false, not_false_eq_true])
local macro_rules | `(tactic| walk_at "len") => `(tactic| (intro ds O R RE h; first | (obtain ⟨e, _⟩ := h; subst e; rfl) | (obtain ⟨_, e, _⟩ := h; subst e; rfl) | (obtain ⟨_, _, e, _⟩ := h; subst e; rfl) | (obtain ⟨_, _, _, e, _⟩ := h; subst e; rfl) | (obtain ⟨_, _, _, _, e, _⟩ := h; subst e; rfl) | (obtain ⟨_, _, _, _, _, e, _⟩ := h; subst e; rfl) | (obtain ⟨_, _, _, _, _, _, e, _⟩ := h; subst e; rfl) | (obtain ⟨_, _, _, _, _, _, _, e, _⟩ := h; subst e; rfl) | (obtain ⟨_, _, _, _, _, _, _, _, e, _⟩ := h; subst e; rfl) | (obtain ⟨_, _, _, _, _, _, _, _, _, e, _⟩ := h; subst e; rfl)))
local macro_rules | `(tactic| walk_at "kf1") => `(tactic| simp (config := { failIfUnchanged := false }) only [startD, ap_fiEnumT, asT1_t, ap_fKGet, asStr_s, ap_fKIn, ap_fKIx, ap_gAsgL, rUnl_l, ap_fiRng3, asR3_i, rSplitO_s, ap_fOrL, rOrL_l, ap_fLcK, ap_gForK, ap_fMaxD, rMaxD_l, rMaxL_l, ap_fCallXD, ap_gForE, asLE_l, ap_fFrz, ap_fDicO, ap_fDGet, ap_fDGet1, ap_fDGet2, ap_gDPut, ap_fIsiT, ap_gForR, rRep_l, isT_i, isT_s, isT_b, isT_n, isT_t, isT_l, ap_gIf, ap_gRet, ap_gNext, ap_gSet, ap_gAsg, ap_gPar, ap_gDrop, ap_gRetF, ap_gRetN, ap_gFor, ap_gSetIx, ap_gBreak, ap_fRev, ap_fiRevR, asIR_i, rRev_l, ap_fCallX, ap_gRaise, ap_gTry, ap_gTryAs, ap_gNever, ap_fEdic, ap_fTest, ap_fOp, ap_fVar, envGet_s, patGet_s, ap_fC, ap_fCB, ap_fCons, ap_fNil, ap_fCall, ap_fAnd, ap_fOr, ap_fNot, ap_fAndV, ap_fOrV, ap_fNotV, ap_fIf, ap_fTup, ap_fLst, ap_fLstO, ap_fChain, ap_fUn, ap_fBM, ap_fBM0, ap_fPool, rPool_i, ap_fSl, ap_fPart, ap_fNoPart, asI_i, rSl_l, ap_fiRng1, ap_fiRng2, ap_fiList, ap_fiTup, ap_fiStr, ap_fiEnum, ap_fiZip, ap_fiRev, asL_l, asT_t, asSg_s, asR1_i, asR2_i, asL1_l, asL2_l, ap_fLc, ap_fLcO, ap_fYes, wipeD, lcD, isi_i_int, isi_i_bool, isi_i_str, isi_i_tuple, isi_i_list, isi_i_dict, isi_b_int, isi_b_bool, isi_b_str, isi_b_tuple, isi_b_list, isi_b_dict, isi_s_int, isi_s_bool, isi_s_str, isi_s_tuple, isi_s_list, isi_s_dict, isi_t_int, isi_t_bool, isi_t_str, isi_t_tuple, isi_t_list, isi_t_dict, isi_l_int, isi_l_bool, isi_l_str, isi_l_tuple, isi_l_list, isi_l_dict, isi_n_int, isi_n_bool, isi_n_str, isi_n_tuple, isi_n_list, isi_n_dict, isi_d_int, isi_d_bool, isi_d_str, isi_d_tuple, isi_d_list, isi_d_dict,
  deref_tup, deref_lst, deref_int, deref_str, deref_bl, deref_non, deref_scr, rLt_i, rLt_s, rLe_i, rLe_s, rInts_i, rInts0_i, rAdd_i, rAdd_s, rAdd_l, rAdd_t, rCatO_l, rNeg_i, rLen_t, rLen_l, rLen_c, rLen_s, rMax_i, rMin_i, rInt_i, rInt_b, rDivmod_i, ap_gAug, rStr_i, rList_l, rList_t, rListO_l, rListO_t, rTup_l, rTup_t,
  rIx_t0, rIx_t1, rIx_t2, rIx_t3, rIx_l0, rIx_l1, rIx_l2, rIsN_x, isNon_t, isNon_n, isNon_i, isNon_s, isNon_l, rEq_i, rEq_b, rEq_i2, rEq_b2, rJoin_m, rSplit_s, tyOk_l, tyOk_s, patD_nm, patD_tp, patDs_nil, patDs_cons, Option.bind_some, notX, notX',
  List.map_cons, List.map_nil, List.length_cons, List.length_nil, List.cons_append, List.nil_append, List.append_nil, List.replicate, List.getElem?_cons_zero, List.getElem?_cons_succ, List.set_cons_zero, List.set_cons_succ, updO_same, updO_updO,
  Nat.reduceSub, Nat.reduceAdd, Nat.reduceLeDiff, Nat.zero_add, Int.cast_ofNat_Int, Int.natCast_zero, Int.natCast_one, Int.reduceLT, Int.reduceLE, Int.reduceEq, Int.reduceAdd, Int.reduceSub, Int.reduceNeg, decide_true, decide_false, if_true, if_false, Bool.false_eq_true, eq_self, reduceIte, Bool.true_eq_false, decide_eq_true_eq, Bool.not_true, Bool.not_false, Bool.not_eq_true', decide_eq_false_iff_not, exists_eq_left', exists_eq_left, D.bl.injEq, true_and, and_true, not_true_eq_false, not_false_eq_true])
section
variable {P : Program} {w : World} {K : PySem.W.Frag} {mg : Str → Option Value} {base : Heap}
local macro_rules | `(tactic| walk_at "tg") => `(tactic| simp (config := { failIfUnchanged := false }) only [te_name_take, te_name_give, te_name_pair, te_name_first, te_name_second, te_name_to, te_name_both, te_name_one, te_name_mark, te_name_name, te_name_thing, te_name_at, te_thing_take, te_thing_give, te_thing_pair, te_thing_first, te_thing_second, te_thing_to, te_thing_both, te_thing_one, te_thing_mark, te_thing_name, te_thing_thing, te_thing_at, te_take_take, te_take_give, te_take_pair, te_take_first, te_take_second, te_take_to, te_take_both, te_take_one, te_take_mark, te_take_name, te_take_thing, te_take_at, te_give_take, te_give_give, te_give_pair, te_give_first, te_give_second, te_give_to, te_give_both, te_give_one, te_give_mark, te_give_name, te_give_thing, te_give_at, te_pair_take, te_pair_give, te_pair_pair, te_pair_first, te_pair_second, te_pair_to, te_pair_both, te_pair_one, te_pair_mark, te_pair_name, te_pair_thing, te_pair_at, te_first_take, te_first_give, te_first_pair, te_first_first, te_first_second, te_first_to, te_first_both, te_first_one, te_first_mark, te_first_name, te_first_thing, te_first_at, te_second_take, te_second_give, te_second_pair, te_second_first, te_second_second, te_second_to, te_second_both, te_second_one, te_second_mark, te_second_name, te_second_thing, te_second_at, te_mark_take, te_mark_give, te_mark_pair, te_mark_first, te_mark_second, te_mark_to, te_mark_both, te_mark_one, te_mark_mark, te_mark_name, te_mark_thing, te_mark_at, te_one_take, te_one_give, te_one_pair, te_one_first, te_one_second, te_one_to, te_one_both, te_one_one, te_one_mark, te_one_name, te_one_thing, te_one_at, te_to_take, te_to_give, te_to_pair, te_to_first, te_to_second, te_to_to, te_to_both, te_to_one, te_to_mark, te_to_name, te_to_thing, te_to_at, te_both_take, te_both_give, te_both_pair, te_both_first, te_both_second, te_both_to, te_both_both, te_both_one, te_both_mark, te_both_name, te_both_thing, te_both_at, te_at_take, te_at_give, te_at_pair, te_at_first, te_at_second, te_at_to, te_at_both, te_at_one, te_at_mark, te_at_name, te_at_thing, te_at_at, ti4_name, ti4_thing, ti4_take, ti4_give, ti4_pair, ti4_first, ti4_second, ti2_name, ti2_thing, ti2_take, ti2_give, ti2_pair, ti2_first, ti2_second, szT_0, szT_1, szT_2, szT_3, szT_4, szT_5, szT_6, szT_7, szT_8, szT_9, szT_10, szT_11, szT_12, Bool.not_true, Bool.not_false, true_and])
theorem isNonK (k : Kd) : isNon (dK k) = false := by cases k <;> rfl
theorem tql_name {neg : Bool} {O : Ow} {Q : VD} : rInD neg (.str (Str.ofString "name")) (.lst [.str (Str.ofString "give"), .str (Str.ofString "pair"), .str (Str.ofString "first"), .str (Str.ofString "second")]) O Q = Q (.bl (neg ^^ false)) O := by
  have := rIn_wl (neg := neg) (O := O) (Q := Q) (z := Str.ofString "name") (ts := [Str.ofString "give", Str.ofString "pair", Str.ofString "first", Str.ofString "second"]) sw_name (by decide +kernel)
  rw [show decide (Str.ofString "name" ∈ ([Str.ofString "give", Str.ofString "pair", Str.ofString "first", Str.ofString "second"] : List Str)) = false by decide +kernel] at this
  exact this
theorem tql_take {neg : Bool} {O : Ow} {Q : VD} : rInD neg (.str (Str.ofString "take")) (.lst [.str (Str.ofString "give"), .str (Str.ofString "pair"), .str (Str.ofString "first"), .str (Str.ofString "second")]) O Q = Q (.bl (neg ^^ false)) O := by
  have := rIn_wl (neg := neg) (O := O) (Q := Q) (z := Str.ofString "take") (ts := [Str.ofString "give", Str.ofString "pair", Str.ofString "first", Str.ofString "second"]) sw_take (by decide +kernel)
  rw [show decide (Str.ofString "take" ∈ ([Str.ofString "give", Str.ofString "pair", Str.ofString "first", Str.ofString "second"] : List Str)) = false by decide +kernel] at this
  exact this
theorem tql_give {neg : Bool} {O : Ow} {Q : VD} : rInD neg (.str (Str.ofString "give")) (.lst [.str (Str.ofString "give"), .str (Str.ofString "pair"), .str (Str.ofString "first"), .str (Str.ofString "second")]) O Q = Q (.bl (neg ^^ true)) O := by
  have := rIn_wl (neg := neg) (O := O) (Q := Q) (z := Str.ofString "give") (ts := [Str.ofString "give", Str.ofString "pair", Str.ofString "first", Str.ofString "second"]) sw_give (by decide +kernel)
  rw [show decide (Str.ofString "give" ∈ ([Str.ofString "give", Str.ofString "pair", Str.ofString "first", Str.ofString "second"] : List Str)) = true by decide +kernel] at this
  exact this
theorem tql_pair {neg : Bool} {O : Ow} {Q : VD} : rInD neg (.str (Str.ofString "pair")) (.lst [.str (Str.ofString "give"), .str (Str.ofString "pair"), .str (Str.ofString "first"), .str (Str.ofString "second")]) O Q = Q (.bl (neg ^^ true)) O := by
  have := rIn_wl (neg := neg) (O := O) (Q := Q) (z := Str.ofString "pair") (ts := [Str.ofString "give", Str.ofString "pair", Str.ofString "first", Str.ofString "second"]) sw_pair (by decide +kernel)
  rw [show decide (Str.ofString "pair" ∈ ([Str.ofString "give", Str.ofString "pair", Str.ofString "first", Str.ofString "second"] : List Str)) = true by decide +kernel] at this
  exact this
theorem tql_first {neg : Bool} {O : Ow} {Q : VD} : rInD neg (.str (Str.ofString "first")) (.lst [.str (Str.ofString "give"), .str (Str.ofString "pair"), .str (Str.ofString "first"), .str (Str.ofString "second")]) O Q = Q (.bl (neg ^^ true)) O := by
  have := rIn_wl (neg := neg) (O := O) (Q := Q) (z := Str.ofString "first") (ts := [Str.ofString "give", Str.ofString "pair", Str.ofString "first", Str.ofString "second"]) sw_first (by decide +kernel)
  rw [show decide (Str.ofString "first" ∈ ([Str.ofString "give", Str.ofString "pair", Str.ofString "first", Str.ofString "second"] : List Str)) = true by decide +kernel] at this
  exact this
theorem tql_second {neg : Bool} {O : Ow} {Q : VD} : rInD neg (.str (Str.ofString "second")) (.lst [.str (Str.ofString "give"), .str (Str.ofString "pair"), .str (Str.ofString "first"), .str (Str.ofString "second")]) O Q = Q (.bl (neg ^^ true)) O := by
  have := rIn_wl (neg := neg) (O := O) (Q := Q) (z := Str.ofString "second") (ts := [Str.ofString "give", Str.ofString "pair", Str.ofString "first", Str.ofString "second"]) sw_second (by decide +kernel)
  rw [show decide (Str.ofString "second" ∈ ([Str.ofString "give", Str.ofString "pair", Str.ofString "first", Str.ofString "second"] : List Str)) = true by decide +kernel] at this
  exact this
theorem tql_thing {neg : Bool} {O : Ow} {Q : VD} : rInD neg (.str (Str.ofString "thing")) (.lst [.str (Str.ofString "give"), .str (Str.ofString "pair"), .str (Str.ofString "first"), .str (Str.ofString "second")]) O Q = Q (.bl (neg ^^ false)) O := by
  have := rIn_wl (neg := neg) (O := O) (Q := Q) (z := Str.ofString "thing") (ts := [Str.ofString "give", Str.ofString "pair", Str.ofString "first", Str.ofString "second"]) sw_thing (by decide +kernel)
  rw [show decide (Str.ofString "thing" ∈ ([Str.ofString "give", Str.ofString "pair", Str.ofString "first", Str.ofString "second"] : List Str)) = false by decide +kernel] at this
  exact this
local macro_rules | `(tactic| walk_at "tl") => `(tactic| simp (config := { failIfUnchanged := false }) only [tql_name, tql_take, tql_give, tql_pair, tql_first, tql_second, tql_thing, Bool.xor_false, Bool.xor_true, Bool.false_xor, Bool.true_xor])
def spInner : DSp := fun ds O R _ => ∃ p : Pg, ds = [dP p] ∧ R (.lst (p.ins.map dP)) O
theorem ok_linner (T : Tx K mg) : FO__law_inner P w base T 1 spInner := by
  refine fnd__law_inner T (by walk_at "len") ?_
  rintro ds O R RE ⟨p, rfl, hR⟩
  unfold g__law_inner
  cases p <;> simp only [dP, Pg.ins] at hR ⊢ <;> walk_at "kf" <;> walk_at "tg" <;> walk_at "kf" <;> walk_at "tg" <;> walk_at "tl" <;> walk_at "kf" <;> (try simp only [sl1_2, sl1_3]) <;> walk_at "kf" <;> walk_at "tg" <;> exact hR
theorem atI_neg1 {α : Type} (r : List α) (x : α) : atI (r ++ [x]) (-1) = some x := by
  have h1 : ¬ (0 : Int) ≤ -1 := by decide
  have h2 : -(((r ++ [x]).length : Nat) : Int) ≤ -1 := by rw [List.length_append, List.length_singleton]; omega
  have h3 : ((-1 : Int) + (((r ++ [x]).length : Nat) : Int)).toNat = r.length := by rw [List.length_append, List.length_singleton]; omega
  unfold atI ixN
  rw [if_neg h1, if_pos h2, h3]
  show (r ++ [x])[r.length]? = some x
  rw [List.getElem?_append_right (Nat.le_refl _), Nat.sub_self, List.getElem?_cons_zero]
theorem rOrL_r {a : Addr} {ds : List D} {O : Ow} {N : List D → Prop} (h : O a = some (.lst ds)) : rOrL (.ref a) O N = N ds := by simp only [rOrL, deref, h]
theorem ixw_first {O : Ow} {Q : VD} : rIndexD (.lst [.str (Str.ofString "first"), .str (Str.ofString "second")]) [.str (Str.ofString "first")] O Q = Q (.int ((0 : Nat) : Int)) O := by
  refine rIndex_l (by simp [isPys, isPy, sw_first, sw_second]) (by simp [deref, isPy, sw_first]) (by rw [dpL, dpC, dpC, dpN, dpS, dpS]; decide) (by rw [deref_str, dpS]; decide) ?_
  rw [deref_str, List.findIdx?_cons, deq_s, decide_eq_true rfl]
  rfl
theorem ixw_second {O : Ow} {Q : VD} : rIndexD (.lst [.str (Str.ofString "first"), .str (Str.ofString "second")]) [.str (Str.ofString "second")] O Q = Q (.int ((1 : Nat) : Int)) O := by
  refine rIndex_l (by simp [isPys, isPy, sw_first, sw_second]) (by simp [deref, isPy, sw_second]) (by rw [dpL, dpC, dpC, dpN, dpS, dpS]; decide) (by rw [deref_str, dpS]; decide) ?_
  rw [deref_str, List.findIdx?_cons, deq_s, show decide (Str.ofString "first" = Str.ofString "second") = false by decide +kernel, List.findIdx?_cons, deq_s, decide_eq_true rfl]
  rfl
def spKb (n : Nat) : DSp := fun ds O R _ => ∃ (kn : List (Str × Kd)) (p : Pg) (pl : List Int), ds = [.lst (kn.map kv), dP p, dI pl] ∧ p.hgt < n ∧ KnOk kn ∧ p.sok = true ∧ p.ka ∧ p.hgt ≤ 120 ∧ kn.length + p.hgt ≤ 1000 ∧ pl.length + p.hgt ≤ 1000 ∧ (∀ k, kby (envOf kn) p pl = .ok k → ∀ x, R (.tup [dK k, x]) O) ∧ (∀ w, kby (envOf kn) p pl = .error w → R (.tup [.non, dI w]) O)
theorem ok_kb (T : Tx K mg) : ∀ n, FO__law_kind_by P w base T (n + 1) (spKb n)
  | 0 => none_left fun ds O R RE ⟨kn, p, pl, _, h, _⟩ => by omega
  | n + 1 => by
    refine fndG__law_kind_by T (ok_kb T n) (by walk_at "len") ?_
    rintro ds O R RE ⟨kn, p, pl, rfl, hn, hkn, hs, hka, h120, hl, hpl, hS, hE⟩
    have zpl : ∀ i : Int, (pl.map D.int).length + 1 ≤ sizeLine ∨ p.hgt = 0 := fun i => by
      by_cases c : p.hgt = 0
      · exact .inr c
      · exact .inl (sz_21 (by rw [List.length_map]; omega))
    have call : ∀ (kn' : List (Str × Kd)) (q : Pg) (i : Int) (O' : Ow) (R' : VD) (RE' : XD), q.hgt < p.hgt → KnOk kn' → kn'.length ≤ kn.length + 1 → q.sok = true → q.ka → (∀ k, kby (envOf kn') q (pl ++ [i]) = .ok k → ∀ x, R' (.tup [dK k, x]) O') → (∀ w, kby (envOf kn') q (pl ++ [i]) = .error w → R' (.tup [.non, dI w]) O') →
        spKb n [.lst (kn'.map kv), dP q, .lst (pl.map .int ++ [.int i])] O' R' RE' := by
      intro kn' q i O' R' RE' h1 h2 h3 h4 h5 h6 h7
      exact ⟨kn', q, pl ++ [i], by simp [dI], by omega, h2, h4, h5, by omega, by omega, by rw [List.length_append, List.length_singleton]; omega, h6, h7⟩
    have kdo : ∀ (q : Pg) (k : Kd) (i : Int), q.hgt < p.hgt → q.ka → kby (envOf kn) q (pl ++ [i]) = .ok k → k.ok = true ∧ k.depth ≤ 140 := fun q k i h1 h2 h3 => by
      have := kd_has q _ k (kby_ok q _ k _ h3) hkn.e h2
      exact ⟨this.1, by omega⟩
    unfold g__law_kind_by
    refine gSeq_step ?_
    walk_at "kf1"
    cases p with
    | nm x =>
      simp only [dP]
      walk_at "kf1"
      refine gSeq_step ?_
      walk_at "kf1"; walk_at "tg"; walk_at "kf1"
      refine gSeq_step ?_
      walk_at "kf1"
      refine lcA_filter (fun q => decide (q.1 = x)) kv (fun q => dK q.2) kn [] _ (sz_21 (by rw [List.length_nil]; omega)) ?_ ?_
      · intro q hq Q1 Q2 h1 h2
        walk_at "kf1"
        rw [rEq_s (hkn.nm q hq) hs]
        by_cases c : q.1 = x
        · simp only [c, decide_true, Bool.false_xor, if_true]
          walk_at "kf1"
          exact h1 (decide_eq_true c)
        · simp only [c, decide_false, Bool.false_xor]
          walk_at "kf1"
          exact h2 (decide_eq_false c)
      · rw [List.nil_append]
        intro a ha
        have el := envOf_last kn x
        have em : (kn.filter fun q => decide (q.1 = x)).map (fun q => dK q.2) = ((kn.filter fun q => decide (q.1 = x)).map (·.2)).map dK := by rw [List.map_map]; rfl
        rw [em]
        generalize (kn.filter fun q => decide (q.1 = x)).map (·.2) = ks at el
        try dsimp only
        walk_at "kf1"
        rw [rOrL_r updO_same]
        rcases List.eq_nil_or_concat ks with rfl | ⟨ks0, k0, rfl⟩
        · simp only [List.map_nil, List.isEmpty_nil, if_true]
          walk_at "kf1"; walk_at "tg"; walk_at "kf1"
          rw [rIx_l (show atI [D.non] (-1) = some .non from atI_neg1 [] _)]
          walk_at "kf1"; walk_at "tg"
          refine VG.up ha (hE pl ?_)
          simp only [kby, kfin, khere, el, List.getLast?_nil]
        · rw [List.concat_eq_append, List.getLast?_concat] at el
          have e1 : (List.map dK (ks0.concat k0)).isEmpty = false := by simp
          rw [e1]
          simp only [Bool.false_eq_true, if_false]
          walk_at "kf1"
          rw [rIx_r updO_same (show atI (List.map dK (ks0.concat k0)) (-1) = some (dK k0) by rw [List.concat_eq_append, List.map_append]; exact atI_neg1 _ _)]
          walk_at "kf1"; walk_at "tg"
          refine VG.up ha (hS k0 ?_ _)
          simp only [kby, kfin, khere, el]
    | thing =>
      simp only [dP]
      walk_at "kf1"
      refine gSeq_step ?_
      walk_at "kf1"; walk_at "tg"; walk_at "kf1"
      refine gSeq_step ?_
      walk_at "kf1"; walk_at "tg"; walk_at "kf1"; walk_at "tg"
      exact .at (hS .one rfl _)
    | take x a b =>
      simp only [Pg.sok, Bool.and_eq_true] at hs
      have hk2 := hkn.snoc hs.1.1 hka.1 hka.2.1
      have zp := (zpl 0).resolve_right (by simp [Pg.hgt])
      simp only [dP]
      walk_at "kf1"
      refine gSeq_step ?_
      walk_at "kf1"; walk_at "tg"; walk_at "kf1"
      refine gSeq_step ?_
      walk_at "kf1"; walk_at "tg"; walk_at "kf1"
      refine gSeq_step ?_
      walk_at "kf1"; walk_at "tg"; walk_at "kf1"
      refine gSeq_step ?_
      walk_at "kf1"; walk_at "tg"
      refine ⟨sz_21 (by rw [List.length_map]; omega), zp, ?_⟩
      rw [show kn.map kv ++ [D.tup [.str x, dK a]] = (kn ++ [(x, a)]).map kv by rw [List.map_append]; rfl]
      refine call _ b 0 O _ _ (by simp only [Pg.hgt]; omega) hk2 (by rw [List.length_append, List.length_singleton]; omega) hs.2 hka.2.2 (fun r e x6 => ?_) (fun w e => ?_)
      · rw [envOf_ext] at e
        try dsimp only
        walk_at "kf1"
        refine gSeq_step ?_
        walk_at "kf1"
        rw [isNonK]
        walk_at "kf1"; walk_at "tg"
        exact .at (hS (.to a r) (by simp only [kby, e]) _)
      · rw [envOf_ext] at e
        try dsimp only
        walk_at "kf1"
        refine gSeq_step ?_
        walk_at "kf1"; walk_at "tg"
        exact .at (hE w (by simp only [kby, e]))
    | give f a =>
      simp only [Pg.sok, Bool.and_eq_true] at hs
      have zp := (zpl 0).resolve_right (by simp [Pg.hgt])
      have hf1 : f.hgt < (Pg.give f a).hgt := by simp only [Pg.hgt]; omega
      have ha1 : a.hgt < (Pg.give f a).hgt := by simp only [Pg.hgt]; omega
      simp only [dP]
      walk_at "kf1"
      refine gSeq_step ?_
      walk_at "kf1"; walk_at "tg"; walk_at "kf1"
      refine gSeq_step ?_
      walk_at "kf1"; walk_at "tg"; walk_at "kf1"
      refine gSeq_step ?_
      walk_at "kf1"; walk_at "tg"; walk_at "kf1"
      refine gSeq_step ?_
      walk_at "kf1"; walk_at "tg"
      intro fa hfa
      refine gSeq_step ?_
      walk_at "kf1"
      try simp only [sl1_3]
      walk_at "kf1"
      try simp only [enum2]
      unfold forD
      walk_at "kf1"
      refine gSeq_step ?_
      walk_at "kf1"; walk_at "tg"
      refine ⟨zp, call kn f 0 _ _ _ hf1 hkn (by omega) hs.1 hka.1 (fun c e x6 => ?_) (fun w e => ?_)⟩
      · have kc := kdo f c 0 hf1 hka.1 e
        try dsimp only
        walk_at "kf1"
        refine gSeq_step ?_
        walk_at "kf1"
        rw [isNonK]
        walk_at "kf1"
        refine ⟨tyOk_r updO_same, ?_⟩
        rw [rApp_r updO_same, updO_updO]
        refine ⟨by show 0 < sizeLine; decide, ?_⟩
        unfold forD
        walk_at "kf1"
        refine gSeq_step ?_
        walk_at "kf1"; walk_at "tg"
        refine ⟨zp, call kn a 1 _ _ _ ha1 hkn (by omega) hs.2 hka.2 (fun d e2 x6' => ?_) (fun w e2 => ?_)⟩
        · have kd := kdo a d 1 ha1 hka.2 e2
          have ef : kby (envOf kn) (.give f a) pl = kfin (envOf kn) (.give f a) [c, d] pl := by simp only [kby, e, e2]
          try dsimp only
          walk_at "kf1"
          refine gSeq_step ?_
          walk_at "kf1"
          rw [isNonK]
          walk_at "kf1"
          refine ⟨tyOk_r updO_same, ?_⟩
          rw [rApp_r updO_same, updO_updO]
          refine ⟨by show 1 < sizeLine; decide, ?_⟩
          unfold forD
          have c0 : updO O fa (.lst [dK c, dK d]) fa = some (.lst [dK c, dK d]) := updO_same
          walk_at "kf1"
          refine gSeq_step ?_
          rw [gIf_F (fun Q => by walk_at "kf1"; walk_at "tg"; walk_at "kf1")]
          walk_at "kf1"
          have i0 : ∀ Q : VD, rIxD (.ref fa) (.int 0) (updO O fa (.lst [dK c, dK d])) Q = Q (dK c) (updO O fa (.lst [dK c, dK d])) := fun Q => rIx_r c0 (ixC0 _ _)
          have i1 : ∀ Q : VD, rIxD (.ref fa) (.int 1) (updO O fa (.lst [dK c, dK d])) Q = Q (dK d) (updO O fa (.lst [dK c, dK d])) := fun Q => rIx_r c0 (ixC1 _ _ _)
          have bad : khere (envOf kn) (.give f a) [c, d] = none → VG R (.tup [.non, dI pl]) (updO O fa (.lst [dK c, dK d])) := fun h => VG.up hfa (hE pl (by rw [ef]; unfold kfin; rw [h]))
          refine gSeq_step ?_
          cases c with
          | to c1 c2 =>
            simp only [Kd.ok, Kd.depth, Bool.and_eq_true] at kc
            walk_at "kf1"; walk_at "tg"; walk_at "kf1"; simp only [i0]; simp only [dK]; walk_at "kf1"; walk_at "tg"; walk_at "kf1"
            simp only [dK] at i0 i1
            simp only [i0]
            walk_at "kf1"
            simp only [i1]
            rw [rEq_K kc.1.1 kd.1 (by omega)]
            by_cases c3 : c1 = d
            · simp only [c3, decide_true, Bool.false_xor]
              walk_at "kf1"
              subst c3
              simp only [i0]
              walk_at "kf1"; walk_at "tg"
              exact VG.up hfa (hS c2 (by rw [ef]; simp [kfin, khere]) _)
            · simp only [c3, decide_false, Bool.false_xor]
              walk_at "kf1"
              refine gSeq_step ?_
              walk_at "kf1"; walk_at "tg"; walk_at "kf1"; walk_at "tg"
              simp only [dK] at bad
              exact bad (by simp [khere, c3])
          | _ =>
            walk_at "kf1"; walk_at "tg"; walk_at "kf1"; simp only [i0]; simp only [dK]; walk_at "kf1"; walk_at "tg"; walk_at "kf1"
            refine gSeq_step ?_
            walk_at "kf1"; walk_at "tg"; walk_at "kf1"; walk_at "tg"
            simp only [dK] at bad
            exact bad rfl
        · try dsimp only
          walk_at "kf1"
          refine gSeq_step ?_
          walk_at "kf1"; walk_at "tg"
          exact VG.up hfa (hE w (by simp only [kby, e, e2]))
      · try dsimp only
        walk_at "kf1"
        refine gSeq_step ?_
        walk_at "kf1"; walk_at "tg"
        exact VG.up hfa (hE w (by simp only [kby, e]))
    | pair f a =>
      simp only [Pg.sok, Bool.and_eq_true] at hs
      have zp := (zpl 0).resolve_right (by simp [Pg.hgt])
      have hf1 : f.hgt < (Pg.pair f a).hgt := by simp only [Pg.hgt]; omega
      have ha1 : a.hgt < (Pg.pair f a).hgt := by simp only [Pg.hgt]; omega
      simp only [dP]
      walk_at "kf1"
      refine gSeq_step ?_
      walk_at "kf1"; walk_at "tg"; walk_at "kf1"
      refine gSeq_step ?_
      walk_at "kf1"; walk_at "tg"; walk_at "kf1"
      refine gSeq_step ?_
      walk_at "kf1"; walk_at "tg"; walk_at "kf1"
      refine gSeq_step ?_
      walk_at "kf1"; walk_at "tg"
      intro fa hfa
      refine gSeq_step ?_
      walk_at "kf1"
      try simp only [sl1_3]
      walk_at "kf1"
      try simp only [enum2]
      unfold forD
      walk_at "kf1"
      refine gSeq_step ?_
      walk_at "kf1"; walk_at "tg"
      refine ⟨zp, call kn f 0 _ _ _ hf1 hkn (by omega) hs.1 hka.1 (fun c e x6 => ?_) (fun w e => ?_)⟩
      · have kc := kdo f c 0 hf1 hka.1 e
        try dsimp only
        walk_at "kf1"
        refine gSeq_step ?_
        walk_at "kf1"
        rw [isNonK]
        walk_at "kf1"
        refine ⟨tyOk_r updO_same, ?_⟩
        rw [rApp_r updO_same, updO_updO]
        refine ⟨by show 0 < sizeLine; decide, ?_⟩
        unfold forD
        walk_at "kf1"
        refine gSeq_step ?_
        walk_at "kf1"; walk_at "tg"
        refine ⟨zp, call kn a 1 _ _ _ ha1 hkn (by omega) hs.2 hka.2 (fun d e2 x6' => ?_) (fun w e2 => ?_)⟩
        · have kd := kdo a d 1 ha1 hka.2 e2
          have ef : kby (envOf kn) (.pair f a) pl = kfin (envOf kn) (.pair f a) [c, d] pl := by simp only [kby, e, e2]
          try dsimp only
          walk_at "kf1"
          refine gSeq_step ?_
          walk_at "kf1"
          rw [isNonK]
          walk_at "kf1"
          refine ⟨tyOk_r updO_same, ?_⟩
          rw [rApp_r updO_same, updO_updO]
          refine ⟨by show 1 < sizeLine; decide, ?_⟩
          unfold forD
          have c0 : updO O fa (.lst [dK c, dK d]) fa = some (.lst [dK c, dK d]) := updO_same
          walk_at "kf1"
          refine gSeq_step ?_
          have i0 : ∀ Q : VD, rIxD (.ref fa) (.int 0) (updO O fa (.lst [dK c, dK d])) Q = Q (dK c) (updO O fa (.lst [dK c, dK d])) := fun Q => rIx_r c0 (ixC0 _ _)
          have i1 : ∀ Q : VD, rIxD (.ref fa) (.int 1) (updO O fa (.lst [dK c, dK d])) Q = Q (dK d) (updO O fa (.lst [dK c, dK d])) := fun Q => rIx_r c0 (ixC1 _ _ _)
          walk_at "kf1"; walk_at "tg"; walk_at "kf1"
          simp only [i0]
          walk_at "kf1"
          simp only [i1]
          walk_at "kf1"; walk_at "tg"
          exact VG.up hfa (hS (.both c d) (by rw [ef]; simp [kfin, khere]) _)
        · try dsimp only
          walk_at "kf1"
          refine gSeq_step ?_
          walk_at "kf1"; walk_at "tg"
          exact VG.up hfa (hE w (by simp only [kby, e, e2]))
      · try dsimp only
        walk_at "kf1"
        refine gSeq_step ?_
        walk_at "kf1"; walk_at "tg"
        exact VG.up hfa (hE w (by simp only [kby, e]))
    | first q =>
      have zp := (zpl 0).resolve_right (by simp [Pg.hgt])
      have hf1 : q.hgt < (Pg.first q).hgt := by simp only [Pg.hgt]; omega
      simp only [dP]
      walk_at "kf1"
      refine gSeq_step ?_
      walk_at "kf1"; walk_at "tg"; walk_at "kf1"
      refine gSeq_step ?_
      walk_at "kf1"; walk_at "tg"; walk_at "kf1"
      refine gSeq_step ?_
      walk_at "kf1"; walk_at "tg"; walk_at "kf1"
      refine gSeq_step ?_
      walk_at "kf1"; walk_at "tg"
      intro fa hfa
      refine gSeq_step ?_
      walk_at "kf1"
      try simp only [sl1_2]
      walk_at "kf1"
      try simp only [enum1]
      unfold forD
      walk_at "kf1"
      refine gSeq_step ?_
      walk_at "kf1"; walk_at "tg"
      refine ⟨zp, call kn q 0 _ _ _ hf1 hkn (by omega) hs hka (fun c e x6 => ?_) (fun w e => ?_)⟩
      · have kc := kdo q c 0 hf1 hka e
        have ef : kby (envOf kn) (.first q) pl = kfin (envOf kn) (.first q) [c] pl := by simp only [kby, e]
        try dsimp only
        walk_at "kf1"
        refine gSeq_step ?_
        walk_at "kf1"
        rw [isNonK]
        walk_at "kf1"
        refine ⟨tyOk_r updO_same, ?_⟩
        rw [rApp_r updO_same, updO_updO]
        refine ⟨by show 0 < sizeLine; decide, ?_⟩
        unfold forD
        have c0 : updO O fa (.lst [dK c]) fa = some (.lst [dK c]) := updO_same
        have i0 : ∀ Q : VD, rIxD (.ref fa) (.int 0) (updO O fa (.lst [dK c])) Q = Q (dK c) (updO O fa (.lst [dK c])) := fun Q => rIx_r c0 (ixC0 _ _)
        have bad : khere (envOf kn) (.first q) [c] = none → VG R (.tup [.non, dI pl]) (updO O fa (.lst [dK c])) := fun h => VG.up hfa (hE pl (by rw [ef]; unfold kfin; rw [h]))
        walk_at "kf1"
        refine gSeq_step ?_
        rw [gIf_F (fun Q => by walk_at "kf1"; walk_at "tg"; walk_at "kf1")]
        walk_at "kf1"
        refine gSeq_step ?_
        rw [gIf_F (fun Q => by walk_at "kf1"; walk_at "tg"; walk_at "kf1")]
        walk_at "kf1"
        refine gSeq_step ?_
        cases c with
        | both c1 c2 =>
          walk_at "kf1"; walk_at "tg"; walk_at "kf1"; simp only [i0]; simp only [dK]; walk_at "kf1"; walk_at "tg"; walk_at "kf1"
          simp only [dK] at i0
          simp only [i0]
          walk_at "kf1"; walk_at "tg"
          rw [ixw_first]
          walk_at "kf1"; walk_at "tg"
          exact VG.up hfa (hS c1 (by rw [ef]; simp [kfin, khere]) _)
        | _ =>
          walk_at "kf1"; walk_at "tg"; walk_at "kf1"; simp only [i0]; simp only [dK]; walk_at "kf1"; walk_at "tg"; walk_at "kf1"; walk_at "tg"
          simp only [dK] at bad
          exact bad rfl
      · try dsimp only
        walk_at "kf1"
        refine gSeq_step ?_
        walk_at "kf1"; walk_at "tg"
        exact VG.up hfa (hE w (by simp only [kby, e]))
    | second q =>
      have zp := (zpl 0).resolve_right (by simp [Pg.hgt])
      have hf1 : q.hgt < (Pg.second q).hgt := by simp only [Pg.hgt]; omega
      simp only [dP]
      walk_at "kf1"
      refine gSeq_step ?_
      walk_at "kf1"; walk_at "tg"; walk_at "kf1"
      refine gSeq_step ?_
      walk_at "kf1"; walk_at "tg"; walk_at "kf1"
      refine gSeq_step ?_
      walk_at "kf1"; walk_at "tg"; walk_at "kf1"
      refine gSeq_step ?_
      walk_at "kf1"; walk_at "tg"
      intro fa hfa
      refine gSeq_step ?_
      walk_at "kf1"
      try simp only [sl1_2]
      walk_at "kf1"
      try simp only [enum1]
      unfold forD
      walk_at "kf1"
      refine gSeq_step ?_
      walk_at "kf1"; walk_at "tg"
      refine ⟨zp, call kn q 0 _ _ _ hf1 hkn (by omega) hs hka (fun c e x6 => ?_) (fun w e => ?_)⟩
      · have kc := kdo q c 0 hf1 hka e
        have ef : kby (envOf kn) (.second q) pl = kfin (envOf kn) (.second q) [c] pl := by simp only [kby, e]
        try dsimp only
        walk_at "kf1"
        refine gSeq_step ?_
        walk_at "kf1"
        rw [isNonK]
        walk_at "kf1"
        refine ⟨tyOk_r updO_same, ?_⟩
        rw [rApp_r updO_same, updO_updO]
        refine ⟨by show 0 < sizeLine; decide, ?_⟩
        unfold forD
        have c0 : updO O fa (.lst [dK c]) fa = some (.lst [dK c]) := updO_same
        have i0 : ∀ Q : VD, rIxD (.ref fa) (.int 0) (updO O fa (.lst [dK c])) Q = Q (dK c) (updO O fa (.lst [dK c])) := fun Q => rIx_r c0 (ixC0 _ _)
        have bad : khere (envOf kn) (.second q) [c] = none → VG R (.tup [.non, dI pl]) (updO O fa (.lst [dK c])) := fun h => VG.up hfa (hE pl (by rw [ef]; unfold kfin; rw [h]))
        walk_at "kf1"
        refine gSeq_step ?_
        rw [gIf_F (fun Q => by walk_at "kf1"; walk_at "tg"; walk_at "kf1")]
        walk_at "kf1"
        refine gSeq_step ?_
        rw [gIf_F (fun Q => by walk_at "kf1"; walk_at "tg"; walk_at "kf1")]
        walk_at "kf1"
        refine gSeq_step ?_
        cases c with
        | both c1 c2 =>
          walk_at "kf1"; walk_at "tg"; walk_at "kf1"; simp only [i0]; simp only [dK]; walk_at "kf1"; walk_at "tg"; walk_at "kf1"
          simp only [dK] at i0
          simp only [i0]
          walk_at "kf1"; walk_at "tg"
          rw [ixw_second]
          walk_at "kf1"; walk_at "tg"
          exact VG.up hfa (hS c2 (by rw [ef]; simp [kfin, khere]) _)
        | _ =>
          walk_at "kf1"; walk_at "tg"; walk_at "kf1"; simp only [i0]; simp only [dK]; walk_at "kf1"; walk_at "tg"; walk_at "kf1"; walk_at "tg"
          simp only [dK] at bad
          exact bad rfl
      · try dsimp only
        walk_at "kf1"
        refine gSeq_step ?_
        walk_at "kf1"; walk_at "tg"
        exact VG.up hfa (hE w (by simp only [kby, e]))
end
end Kf
namespace Kf
open PySem PySem.Spec L2
open PyProof.Rows hiding St
local macro_rules | `(tactic| walk_at "kf") => `(tactic| simp (config := { failIfUnchanged := false }) only [startD, ap_fiEnumT, asT1_t, ap_fKGet, asStr_s, ap_fKIn, ap_fKIx, ap_gAsgL, rUnl_l, ap_fiRng3, asR3_i, rSplitO_s, ap_fOrL, rOrL_l, ap_fLcK, ap_gForK, ap_fMaxD, rMaxD_l, rMaxL_l, ap_fCallXD, ap_gForE, asLE_l, ap_fFrz, ap_fDicO, ap_fDGet, ap_fDGet1, ap_fDGet2, ap_gDPut, ap_fIsiT, ap_gForR, rRep_l, isT_i, isT_s, isT_b, isT_n, isT_t, isT_l, ap_gSeq, ap_gIf, ap_gRet, ap_gNext, ap_gSet, ap_gAsg, ap_gPar, ap_gDrop, ap_gRetF, ap_gRetN, ap_gFor, ap_gSetIx, ap_gBreak, ap_fRev, ap_fiRevR, asIR_i, rRev_l, ap_fCallX, ap_gRaise, ap_gTry, ap_gTryAs, ap_gNever, ap_fEdic, ap_fTest, ap_fOp, ap_fVar, envGet_s, patGet_s, ap_fC, ap_fCB, ap_fCons, ap_fNil, ap_fCall, ap_fAnd, ap_fOr, ap_fNot, ap_fAndV, ap_fOrV, ap_fNotV, ap_fIf, ap_fTup, ap_fLst, ap_fLstO, ap_fChain, ap_fUn, ap_fBM, ap_fBM0, ap_fPool, rPool_i, ap_fSl, ap_fPart, ap_fNoPart, asI_i, rSl_l, ap_fiRng1, ap_fiRng2, ap_fiList, ap_fiTup, ap_fiStr, ap_fiEnum, ap_fiZip, ap_fiRev, asL_l, asT_t, asSg_s, asR1_i, asR2_i, asL1_l, asL2_l, ap_fLc, ap_fLcO, ap_fYes, wipeD, lcD, isi_i_int, isi_i_bool, isi_i_str, isi_i_tuple, isi_i_list, isi_i_dict, isi_b_int, isi_b_bool, isi_b_str, isi_b_tuple, isi_b_list, isi_b_dict, isi_s_int, isi_s_bool, isi_s_str, isi_s_tuple, isi_s_list, isi_s_dict, isi_t_int, isi_t_bool, isi_t_str, isi_t_tuple, isi_t_list, isi_t_dict, isi_l_int, isi_l_bool, isi_l_str, isi_l_tuple, isi_l_list, isi_l_dict, isi_n_int, isi_n_bool, isi_n_str, isi_n_tuple, isi_n_list, isi_n_dict, isi_d_int, isi_d_bool, isi_d_str, isi_d_tuple, isi_d_list, isi_d_dict,
  deref_tup, deref_lst, deref_int, deref_str, deref_bl, deref_non, deref_scr, rLt_i, rLt_s, rLe_i, rLe_s, rInts_i, rInts0_i, rAdd_i, rAdd_s, rAdd_l, rAdd_t, rCatO_l, rNeg_i, rLen_t, rLen_l, rLen_c, rLen_s, rMax_i, rMin_i, rInt_i, rInt_b, rDivmod_i, ap_gAug, rStr_i, rList_l, rList_t, rListO_l, rListO_t, rTup_l, rTup_t,
  rIx_t0, rIx_t1, rIx_t2, rIx_t3, rIx_l0, rIx_l1, rIx_l2, rIsN_x, isNon_t, isNon_n, isNon_i, isNon_s, isNon_l, rEq_i, rEq_b, rEq_i2, rEq_b2, rJoin_m, rSplit_s, tyOk_l, tyOk_s, patD_nm, patD_tp, patDs_nil, patDs_cons, Option.bind_some, notX, notX',
  List.map_cons, List.map_nil, List.length_cons, List.length_nil, List.cons_append, List.nil_append, List.append_nil, List.replicate, List.getElem?_cons_zero, List.getElem?_cons_succ, List.set_cons_zero, List.set_cons_succ, updO_same, updO_updO,
  Nat.reduceSub, Nat.reduceAdd, Nat.reduceLeDiff, Nat.zero_add, Int.cast_ofNat_Int, Int.natCast_zero, Int.natCast_one, Int.reduceLT, Int.reduceLE, Int.reduceEq, Int.reduceAdd, Int.reduceSub, Int.reduceNeg, decide_true, decide_false, if_true, if_false, Bool.false_eq_true, eq_self, reduceIte, Bool.true_eq_false, decide_eq_true_eq, Bool.not_true, Bool.not_false, Bool.not_eq_true', decide_eq_false_iff_not, exists_eq_left', exists_eq_left, D.bl.injEq, true_and, and_true, not_true_eq_false, not_false_eq_true])
local macro_rules | `(tactic| walk_at "len") => `(tactic| (intro ds O R RE h; first | (obtain ⟨e, _⟩ := h; subst e; rfl) | (obtain ⟨_, e, _⟩ := h; subst e; rfl) | (obtain ⟨_, _, e, _⟩ := h; subst e; rfl) | (obtain ⟨_, _, _, e, _⟩ := h; subst e; rfl) | (obtain ⟨_, _, _, _, e, _⟩ := h; subst e; rfl) | (obtain ⟨_, _, _, _, _, e, _⟩ := h; subst e; rfl) | (obtain ⟨_, _, _, _, _, _, e, _⟩ := h; subst e; rfl) | (obtain ⟨_, _, _, _, _, _, _, e, _⟩ := h; subst e; rfl) | (obtain ⟨_, _, _, _, _, _, _, _, e, _⟩ := h; subst e; rfl) | (obtain ⟨_, _, _, _, _, _, _, _, _, e, _⟩ := h; subst e; rfl)))
local macro_rules | `(tactic| walk_at "kf1") => `(tactic| simp (config := { failIfUnchanged := false }) only [startD, ap_fiEnumT, asT1_t, ap_fKGet, asStr_s, ap_fKIn, ap_fKIx, ap_gAsgL, rUnl_l, ap_fiRng3, asR3_i, rSplitO_s, ap_fOrL, rOrL_l, ap_fLcK, ap_gForK, ap_fMaxD, rMaxD_l, rMaxL_l, ap_fCallXD, ap_gForE, asLE_l, ap_fFrz, ap_fDicO, ap_fDGet, ap_fDGet1, ap_fDGet2, ap_gDPut, ap_fIsiT, ap_gForR, rRep_l, isT_i, isT_s, isT_b, isT_n, isT_t, isT_l, ap_gIf, ap_gRet, ap_gNext, ap_gSet, ap_gAsg, ap_gPar, ap_gDrop, ap_gRetF, ap_gRetN, ap_gFor, ap_gSetIx, ap_gBreak, ap_fRev, ap_fiRevR, asIR_i, rRev_l, ap_fCallX, ap_gRaise, ap_gTry, ap_gTryAs, ap_gNever, ap_fEdic, ap_fTest, ap_fOp, ap_fVar, envGet_s, patGet_s, ap_fC, ap_fCB, ap_fCons, ap_fNil, ap_fCall, ap_fAnd, ap_fOr, ap_fNot, ap_fAndV, ap_fOrV, ap_fNotV, ap_fIf, ap_fTup, ap_fLst, ap_fLstO, ap_fChain, ap_fUn, ap_fBM, ap_fBM0, ap_fPool, rPool_i, ap_fSl, ap_fPart, ap_fNoPart, asI_i, rSl_l, ap_fiRng1, ap_fiRng2, ap_fiList, ap_fiTup, ap_fiStr, ap_fiEnum, ap_fiZip, ap_fiRev, asL_l, asT_t, asSg_s, asR1_i, asR2_i, asL1_l, asL2_l, ap_fLc, ap_fLcO, ap_fYes, wipeD, lcD, isi_i_int, isi_i_bool, isi_i_str, isi_i_tuple, isi_i_list, isi_i_dict, isi_b_int, isi_b_bool, isi_b_str, isi_b_tuple, isi_b_list, isi_b_dict, isi_s_int, isi_s_bool, isi_s_str, isi_s_tuple, isi_s_list, isi_s_dict, isi_t_int, isi_t_bool, isi_t_str, isi_t_tuple, isi_t_list, isi_t_dict, isi_l_int, isi_l_bool, isi_l_str, isi_l_tuple, isi_l_list, isi_l_dict, isi_n_int, isi_n_bool, isi_n_str, isi_n_tuple, isi_n_list, isi_n_dict, isi_d_int, isi_d_bool, isi_d_str, isi_d_tuple, isi_d_list, isi_d_dict,
  deref_tup, deref_lst, deref_int, deref_str, deref_bl, deref_non, deref_scr, rLt_i, rLt_s, rLe_i, rLe_s, rInts_i, rInts0_i, rAdd_i, rAdd_s, rAdd_l, rAdd_t, rCatO_l, rNeg_i, rLen_t, rLen_l, rLen_c, rLen_s, rMax_i, rMin_i, rInt_i, rInt_b, rDivmod_i, ap_gAug, rStr_i, rList_l, rList_t, rListO_l, rListO_t, rTup_l, rTup_t,
  rIx_t0, rIx_t1, rIx_t2, rIx_t3, rIx_l0, rIx_l1, rIx_l2, rIsN_x, isNon_t, isNon_n, isNon_i, isNon_s, isNon_l, rEq_i, rEq_b, rEq_i2, rEq_b2, rJoin_m, rSplit_s, tyOk_l, tyOk_s, patD_nm, patD_tp, patDs_nil, patDs_cons, Option.bind_some, notX, notX',
  List.map_cons, List.map_nil, List.length_cons, List.length_nil, List.cons_append, List.nil_append, List.append_nil, List.replicate, List.getElem?_cons_zero, List.getElem?_cons_succ, List.set_cons_zero, List.set_cons_succ, updO_same, updO_updO,
  Nat.reduceSub, Nat.reduceAdd, Nat.reduceLeDiff, Nat.zero_add, Int.cast_ofNat_Int, Int.natCast_zero, Int.natCast_one, Int.reduceLT, Int.reduceLE, Int.reduceEq, Int.reduceAdd, Int.reduceSub, Int.reduceNeg, decide_true, decide_false, if_true, if_false, Bool.false_eq_true, eq_self, reduceIte, Bool.true_eq_false, decide_eq_true_eq, Bool.not_true, Bool.not_false, Bool.not_eq_true', decide_eq_false_iff_not, exists_eq_left', exists_eq_left, D.bl.injEq, true_and, and_true, not_true_eq_false, not_false_eq_true])
section
variable {P : Program} {w : World} {K : PySem.W.Frag} {mg : Str → Option Value} {base : Heap}
local macro_rules | `(tactic| walk_at "tg") => `(tactic| simp (config := { failIfUnchanged := false }) only [te_name_take, te_name_give, te_name_pair, te_name_first, te_name_second, te_name_to, te_name_both, te_name_one, te_name_mark, te_name_name, te_name_thing, te_name_at, te_thing_take, te_thing_give, te_thing_pair, te_thing_first, te_thing_second, te_thing_to, te_thing_both, te_thing_one, te_thing_mark, te_thing_name, te_thing_thing, te_thing_at, te_take_take, te_take_give, te_take_pair, te_take_first, te_take_second, te_take_to, te_take_both, te_take_one, te_take_mark, te_take_name, te_take_thing, te_take_at, te_give_take, te_give_give, te_give_pair, te_give_first, te_give_second, te_give_to, te_give_both, te_give_one, te_give_mark, te_give_name, te_give_thing, te_give_at, te_pair_take, te_pair_give, te_pair_pair, te_pair_first, te_pair_second, te_pair_to, te_pair_both, te_pair_one, te_pair_mark, te_pair_name, te_pair_thing, te_pair_at, te_first_take, te_first_give, te_first_pair, te_first_first, te_first_second, te_first_to, te_first_both, te_first_one, te_first_mark, te_first_name, te_first_thing, te_first_at, te_second_take, te_second_give, te_second_pair, te_second_first, te_second_second, te_second_to, te_second_both, te_second_one, te_second_mark, te_second_name, te_second_thing, te_second_at, te_mark_take, te_mark_give, te_mark_pair, te_mark_first, te_mark_second, te_mark_to, te_mark_both, te_mark_one, te_mark_mark, te_mark_name, te_mark_thing, te_mark_at, te_one_take, te_one_give, te_one_pair, te_one_first, te_one_second, te_one_to, te_one_both, te_one_one, te_one_mark, te_one_name, te_one_thing, te_one_at, te_to_take, te_to_give, te_to_pair, te_to_first, te_to_second, te_to_to, te_to_both, te_to_one, te_to_mark, te_to_name, te_to_thing, te_to_at, te_both_take, te_both_give, te_both_pair, te_both_first, te_both_second, te_both_to, te_both_both, te_both_one, te_both_mark, te_both_name, te_both_thing, te_both_at, te_at_take, te_at_give, te_at_pair, te_at_first, te_at_second, te_at_to, te_at_both, te_at_one, te_at_mark, te_at_name, te_at_thing, te_at_at, ti4_name, ti4_thing, ti4_take, ti4_give, ti4_pair, ti4_first, ti4_second, ti2_name, ti2_thing, ti2_take, ti2_give, ti2_pair, ti2_first, ti2_second, szT_0, szT_1, szT_2, szT_3, szT_4, szT_5, szT_6, szT_7, szT_8, szT_9, szT_10, szT_11, szT_12, Bool.not_true, Bool.not_false, true_and])
abbrev dPt (t : Pg × List Int) : D := .tup [dP t.1, dI t.2]
def prts : Pg → List Int → List (Pg × List Int)
  | .nm x, pl => [(.nm x, pl)]
  | .thing, pl => [(.thing, pl)]
  | .take x k b, pl => (.take x k b, pl) :: prts b (pl ++ [0])
  | .give f a, pl => (.give f a, pl) :: (prts f (pl ++ [0]) ++ prts a (pl ++ [1]))
  | .pair f a, pl => (.pair f a, pl) :: (prts f (pl ++ [0]) ++ prts a (pl ++ [1]))
  | .first f, pl => (.first f, pl) :: prts f (pl ++ [0])
  | .second f, pl => (.second f, pl) :: prts f (pl ++ [0])
theorem prts_wk : ∀ (p : Pg) (kn : List (Str × Kd)) (pl : List Int), prts p pl = (walkd p kn pl).map fun t => (t.1, t.2.2)
  | .nm x, kn, pl => rfl
  | .thing, kn, pl => rfl
  | .take x k b, kn, pl => by simp only [prts, walkd, List.map_cons, ← prts_wk b]
  | .give f a, kn, pl => by simp only [prts, walkd, List.map_cons, List.map_append, ← prts_wk f, ← prts_wk a]
  | .pair f a, kn, pl => by simp only [prts, walkd, List.map_cons, List.map_append, ← prts_wk f, ← prts_wk a]
  | .first f, kn, pl => by simp only [prts, walkd, List.map_cons, ← prts_wk f]
  | .second f, kn, pl => by simp only [prts, walkd, List.map_cons, ← prts_wk f]
theorem prts_len (p : Pg) (pl : List Int) : (prts p pl).length = p.psz := by rw [prts_wk p [] pl, List.length_map, walkd_len]
def spPts (n : Nat) : DSp := fun ds O R _ => ∃ (p : Pg) (pl : List Int), ds = [dP p, dI pl] ∧ p.hgt < n ∧ p.psz ≤ 100000 ∧ pl.length + p.hgt ≤ 1000 ∧ R (.lst ((prts p pl).map dPt)) O
theorem ok_pts (T : Tx K mg) : ∀ n, FO__law_parts P w base T (n + 1) (spPts n)
  | 0 => none_left fun ds O R RE ⟨p, pl, _, h, _⟩ => by omega
  | n + 1 => by
    refine fnd__law_parts T (fnUp (ok_linner T) (by omega)) (ok_pts T n) (by walk_at "len") ?_
    rintro ds O R RE ⟨p, pl, rfl, hn, hz, hpl, hR⟩
    have call : ∀ (q : Pg) (i : Int) (R' : VD) (RE' : XD), q.hgt < p.hgt → q.psz ≤ p.psz → R' (.lst ((prts q (pl ++ [i])).map dPt)) O → spPts n [dP q, .lst (pl.map .int ++ [.int i])] O R' RE' := by
      intro q i R' RE' h1 h2 h4
      exact ⟨q, pl ++ [i], by simp [dI], by omega, by omega, by rw [List.length_append, List.length_singleton]; omega, h4⟩
    have zp : 0 < p.hgt → (pl.map D.int).length + 1 ≤ sizeLine := fun h => sz_21 (by rw [List.length_map]; omega)
    unfold g__law_parts
    refine gSeq_step ?_
    walk_at "kf1"
    walk_at "tg"
    refine gSeq_step ?_
    walk_at "kf1"
    refine ⟨p, rfl, ?_⟩
    cases p with
    | nm x =>
      simp only [Pg.ins, List.map_nil]
      walk_at "kf1"
      simp only [enum0]
      unfold forD
      walk_at "kf1"
      exact hR
    | thing =>
      simp only [Pg.ins, List.map_nil]
      walk_at "kf1"
      simp only [enum0]
      unfold forD
      walk_at "kf1"
      exact hR
    | take x k b =>
      simp only [Pg.hgt, Pg.psz] at hn hz zp
      simp only [Pg.ins, List.map_cons, List.map_nil]
      walk_at "kf1"
      simp only [enum1]
      unfold forD
      walk_at "kf1"; walk_at "tg"
      refine ⟨zp (by omega), call b 0 _ _ (by simp only [Pg.hgt]; omega) (by simp only [Pg.psz]; omega) ?_⟩
      try dsimp only
      walk_at "kf1"
      refine ⟨sz_21 (by simp only [List.length_map, prts_len, List.length_cons, List.length_nil]; omega), ?_⟩
      unfold forD
      walk_at "kf1"
      exact hR
    | give f a =>
      simp only [Pg.hgt, Pg.psz] at hn hz zp
      simp only [Pg.ins, List.map_cons, List.map_nil]
      walk_at "kf1"
      simp only [enum2]
      unfold forD
      walk_at "kf1"; walk_at "tg"
      refine ⟨zp (by omega), call f 0 _ _ (by simp only [Pg.hgt]; omega) (by simp only [Pg.psz]; omega) ?_⟩
      try dsimp only
      walk_at "kf1"
      refine ⟨sz_21 (by simp only [List.length_map, prts_len, List.length_cons, List.length_nil]; omega), ?_⟩
      unfold forD
      walk_at "kf1"; walk_at "tg"
      refine ⟨zp (by omega), call a 1 _ _ (by simp only [Pg.hgt]; omega) (by simp only [Pg.psz]; omega) ?_⟩
      try dsimp only
      walk_at "kf1"
      refine ⟨sz_21 (by simp only [List.length_map, List.length_append, prts_len, List.length_cons, List.length_nil]; omega), ?_⟩
      unfold forD
      walk_at "kf1"
      rw [← List.map_append]
      exact hR
    | pair f a =>
      simp only [Pg.hgt, Pg.psz] at hn hz zp
      simp only [Pg.ins, List.map_cons, List.map_nil]
      walk_at "kf1"
      simp only [enum2]
      unfold forD
      walk_at "kf1"; walk_at "tg"
      refine ⟨zp (by omega), call f 0 _ _ (by simp only [Pg.hgt]; omega) (by simp only [Pg.psz]; omega) ?_⟩
      try dsimp only
      walk_at "kf1"
      refine ⟨sz_21 (by simp only [List.length_map, prts_len, List.length_cons, List.length_nil]; omega), ?_⟩
      unfold forD
      walk_at "kf1"; walk_at "tg"
      refine ⟨zp (by omega), call a 1 _ _ (by simp only [Pg.hgt]; omega) (by simp only [Pg.psz]; omega) ?_⟩
      try dsimp only
      walk_at "kf1"
      refine ⟨sz_21 (by simp only [List.length_map, List.length_append, prts_len, List.length_cons, List.length_nil]; omega), ?_⟩
      unfold forD
      walk_at "kf1"
      rw [← List.map_append]
      exact hR
    | first f =>
      simp only [Pg.hgt, Pg.psz] at hn hz zp
      simp only [Pg.ins, List.map_cons, List.map_nil]
      walk_at "kf1"
      simp only [enum1]
      unfold forD
      walk_at "kf1"; walk_at "tg"
      refine ⟨zp (by omega), call f 0 _ _ (by simp only [Pg.hgt]; omega) (by simp only [Pg.psz]; omega) ?_⟩
      try dsimp only
      walk_at "kf1"
      refine ⟨sz_21 (by simp only [List.length_map, prts_len, List.length_cons, List.length_nil]; omega), ?_⟩
      unfold forD
      walk_at "kf1"
      exact hR
    | second f =>
      simp only [Pg.hgt, Pg.psz] at hn hz zp
      simp only [Pg.ins, List.map_cons, List.map_nil]
      walk_at "kf1"
      simp only [enum1]
      unfold forD
      walk_at "kf1"; walk_at "tg"
      refine ⟨zp (by omega), call f 0 _ _ (by simp only [Pg.hgt]; omega) (by simp only [Pg.psz]; omega) ?_⟩
      try dsimp only
      walk_at "kf1"
      refine ⟨sz_21 (by simp only [List.length_map, prts_len, List.length_cons, List.length_nil]; omega), ?_⟩
      unfold forD
      walk_at "kf1"
      exact hR
theorem cutT3_4 (a b c d : D) : cut [a, b, c, d] none (some 3) = [a, b, c] := by simp [cut, HT.sIx]
theorem cutT1_3 (a b c : D) : cut [a, b, c] none (some 1) = [a] := by simp [cut, HT.sIx]
theorem cutT2_3 (a b c : D) : cut [a, b, c] none (some 2) = [a, b] := by simp [cut, HT.sIx]
theorem cutT1_2 (a b : D) : cut [a, b] none (some 1) = [a] := by simp [cut, HT.sIx]
theorem cutF2_3 (a b c : D) : cut [a, b, c] (some 2) none = [c] := by simp [cut, HT.sIx]
theorem cutF3_3 (a b c : D) : cut [a, b, c] (some 3) none = [] := by simp [cut, HT.sIx]
theorem cutF2_2 (a b : D) : cut [a, b] (some 2) none = [] := by simp [cut, HT.sIx]
theorem cut_tl {α : Type} (a : α) (l : List α) : cut (a :: l) (some 1) none = l := by
  unfold cut HT.sIx
  simp
theorem slT3_4 {a b c d : D} : rSlD (.tup [a, b, c, d]) none (some 3) O Q = Q (.tup [a, b, c]) O := by rw [rSl_t (by simp [HT.sIx]), cutT3_4]
theorem slT1_3 {a b c : D} : rSlD (.tup [a, b, c]) none (some 1) O Q = Q (.tup [a]) O := by rw [rSl_t (by simp [HT.sIx]), cutT1_3]
theorem slT2_3 {a b c : D} : rSlD (.tup [a, b, c]) none (some 2) O Q = Q (.tup [a, b]) O := by rw [rSl_t (by simp [HT.sIx]), cutT2_3]
theorem slT1_2 {a b : D} : rSlD (.tup [a, b]) none (some 1) O Q = Q (.tup [a]) O := by rw [rSl_t (by simp [HT.sIx]), cutT1_2]
theorem slF2_3 {a b c : D} : rSlD (.tup [a, b, c]) (some 2) none O Q = Q (.tup [c]) O := by rw [rSl_t (by simp [HT.sIx]), cutF2_3]
theorem slF3_3 {a b c : D} : rSlD (.tup [a, b, c]) (some 3) none O Q = Q (.tup []) O := by rw [rSl_t (by simp [HT.sIx]), cutF3_3]
theorem slF2_2 {a b : D} : rSlD (.tup [a, b]) (some 2) none O Q = Q (.tup []) O := by rw [rSl_t (by simp [HT.sIx]), cutF2_2]
def spWith (n : Nat) : DSp := fun ds O R _ => ∃ (p q o : Pg) (r : List Int), ds = [dP p, dI r, dP o] ∧ r.length < n ∧ partAt p r = some q ∧ R (dP (withPart p r o)) O
theorem ok_with (T : Tx K mg) : ∀ n, FO__law_with P w base T (n + 1) (spWith n)
  | 0 => none_left fun ds O R RE ⟨p, q, o, r, _, h, _⟩ => by omega
  | n + 1 => by
    refine fnd__law_with T (ok_with T n) (by walk_at "len") ?_
    rintro ds O R RE ⟨p, q, o, r, rfl, hn, hq, hR⟩
    unfold g__law_with
    refine gSeq_step ?_
    walk_at "kf1"
    walk_at "tg"
    have hpy : isPys (r.map D.int) = true := by
      rw [isPys_all, List.all_eq_true]
      intro d hd
      obtain ⟨i, _, rfl⟩ := List.mem_map.mp hd
      rfl
    rw [rEq_nilA (xs := r.map D.int) rfl hpy]
    cases r with
    | nil =>
      simp only [List.map_nil, List.isEmpty_nil, Bool.false_xor]
      walk_at "kf1"
      have e : withPart p [] o = o := by cases p <;> rfl
      rw [e] at hR
      exact hR
    | cons i r =>
      simp only [List.map_cons, List.isEmpty_cons, Bool.false_xor, dI]
      rw [List.length_cons] at hn
      walk_at "kf1"
      refine gSeq_step ?_
      walk_at "kf1"
      have sl : ∀ Q : VD, rSlD (.lst (.int i :: r.map D.int)) (some 1) none O Q = Q (dI r) O := fun Q => by rw [rSl_l, cut_tl]
      refine gSeq_step ?_
      cases p with
      | nm x => simp [partAt] at hq
      | thing => simp [partAt] at hq
      | take x a b =>
        simp only [partAt] at hq
        split at hq
        · simp only [dP]
          walk_at "kf1"; walk_at "tg"; walk_at "kf1"
          rw [slT3_4]
          walk_at "kf1"
          rw [cut_tl]
          refine ⟨b, q, o, r, rfl, by omega, hq, ?_⟩
          walk_at "tg"
          walk_at "kf1"
          exact ⟨by simp, hR⟩
        · cases hq
      | give f a =>
        simp only [partAt] at hq
        simp only [dP]
        walk_at "kf1"; walk_at "tg"; walk_at "kf1"
        split at hq
        · rename_i ci
          subst ci
          simp only [withPart, if_true] at hR
          walk_at "kf1"
          rw [slT1_3]
          walk_at "kf1"
          rw [cut_tl]
          refine ⟨f, q, o, r, rfl, by omega, hq, ?_⟩
          walk_at "tg"; walk_at "kf1"
          try refine ⟨by simp, ?_⟩
          rw [slF2_3]
          walk_at "kf1"
          try refine ⟨by simp, ?_⟩
          walk_at "tg"
          exact hR
        · split at hq
          · rename_i ci0 ci
            subst ci
            simp only [withPart, Int.reduceEq, if_false] at hR
            walk_at "kf1"
            rw [slT2_3]
            walk_at "kf1"
            rw [cut_tl]
            refine ⟨a, q, o, r, rfl, by omega, hq, ?_⟩
            walk_at "tg"; walk_at "kf1"
            try refine ⟨by simp, ?_⟩
            rw [slF3_3]
            walk_at "kf1"
            try refine ⟨by simp, ?_⟩
            walk_at "tg"
            exact hR
          · cases hq
      | pair f a =>
        simp only [partAt] at hq
        simp only [dP]
        walk_at "kf1"; walk_at "tg"; walk_at "kf1"
        split at hq
        · rename_i ci
          subst ci
          simp only [withPart, if_true] at hR
          walk_at "kf1"
          rw [slT1_3]
          walk_at "kf1"
          rw [cut_tl]
          refine ⟨f, q, o, r, rfl, by omega, hq, ?_⟩
          walk_at "tg"; walk_at "kf1"
          try refine ⟨by simp, ?_⟩
          rw [slF2_3]
          walk_at "kf1"
          try refine ⟨by simp, ?_⟩
          walk_at "tg"
          exact hR
        · split at hq
          · rename_i ci0 ci
            subst ci
            simp only [withPart, Int.reduceEq, if_false] at hR
            walk_at "kf1"
            rw [slT2_3]
            walk_at "kf1"
            rw [cut_tl]
            refine ⟨a, q, o, r, rfl, by omega, hq, ?_⟩
            walk_at "tg"; walk_at "kf1"
            try refine ⟨by simp, ?_⟩
            rw [slF3_3]
            walk_at "kf1"
            try refine ⟨by simp, ?_⟩
            walk_at "tg"
            exact hR
          · cases hq
      | first p =>
        simp only [partAt] at hq
        simp only [dP]
        walk_at "kf1"; walk_at "tg"; walk_at "kf1"
        split at hq
        · rename_i ci
          subst ci
          walk_at "kf1"
          rw [slT1_2]
          walk_at "kf1"
          rw [cut_tl]
          refine ⟨p, q, o, r, rfl, by omega, hq, ?_⟩
          walk_at "tg"; walk_at "kf1"
          try refine ⟨by simp, ?_⟩
          rw [slF2_2]
          walk_at "kf1"
          try refine ⟨by simp, ?_⟩
          walk_at "tg"
          exact hR
        · cases hq
      | second p =>
        simp only [partAt] at hq
        simp only [dP]
        walk_at "kf1"; walk_at "tg"; walk_at "kf1"
        split at hq
        · rename_i ci
          subst ci
          walk_at "kf1"
          rw [slT1_2]
          walk_at "kf1"
          rw [cut_tl]
          refine ⟨p, q, o, r, rfl, by omega, hq, ?_⟩
          walk_at "tg"; walk_at "kf1"
          try refine ⟨by simp, ?_⟩
          rw [slF2_2]
          walk_at "kf1"
          try refine ⟨by simp, ?_⟩
          walk_at "tg"
          exact hR
        · cases hq
end
end Kf
namespace Kf
open PySem PySem.Spec L2
open PyProof.Rows hiding St
local macro_rules | `(tactic| walk_at "kf") => `(tactic| simp (config := { failIfUnchanged := false }) only [startD, ap_fiEnumT, asT1_t, ap_fKGet, asStr_s, ap_fKIn, ap_fKIx, ap_gAsgL, rUnl_l, ap_fiRng3, asR3_i, rSplitO_s, ap_fOrL, rOrL_l, ap_fLcK, ap_gForK, ap_fMaxD, rMaxD_l, rMaxL_l, ap_fCallXD, ap_gForE, asLE_l, ap_fFrz, ap_fDicO, ap_fDGet, ap_fDGet1, ap_fDGet2, ap_gDPut, ap_fIsiT, ap_gForR, rRep_l, isT_i, isT_s, isT_b, isT_n, isT_t, isT_l, ap_gSeq, ap_gIf, ap_gRet, ap_gNext, ap_gSet, ap_gAsg, ap_gPar, ap_gDrop, ap_gRetF, ap_gRetN, ap_gFor, ap_gSetIx, ap_gBreak, ap_fRev, ap_fiRevR, asIR_i, rRev_l, ap_fCallX, ap_gRaise, ap_gTry, ap_gTryAs, ap_gNever, ap_fEdic, ap_fTest, ap_fOp, ap_fVar, envGet_s, patGet_s, ap_fC, ap_fCB, ap_fCons, ap_fNil, ap_fCall, ap_fAnd, ap_fOr, ap_fNot, ap_fAndV, ap_fOrV, ap_fNotV, ap_fIf, ap_fTup, ap_fLst, ap_fLstO, ap_fChain, ap_fUn, ap_fBM, ap_fBM0, ap_fPool, rPool_i, ap_fSl, ap_fPart, ap_fNoPart, asI_i, rSl_l, ap_fiRng1, ap_fiRng2, ap_fiList, ap_fiTup, ap_fiStr, ap_fiEnum, ap_fiZip, ap_fiRev, asL_l, asT_t, asSg_s, asR1_i, asR2_i, asL1_l, asL2_l, ap_fLc, ap_fLcO, ap_fYes, wipeD, lcD, isi_i_int, isi_i_bool, isi_i_str, isi_i_tuple, isi_i_list, isi_i_dict, isi_b_int, isi_b_bool, isi_b_str, isi_b_tuple, isi_b_list, isi_b_dict, isi_s_int, isi_s_bool, isi_s_str, isi_s_tuple, isi_s_list, isi_s_dict, isi_t_int, isi_t_bool, isi_t_str, isi_t_tuple, isi_t_list, isi_t_dict, isi_l_int, isi_l_bool, isi_l_str, isi_l_tuple, isi_l_list, isi_l_dict, isi_n_int, isi_n_bool, isi_n_str, isi_n_tuple, isi_n_list, isi_n_dict, isi_d_int, isi_d_bool, isi_d_str, isi_d_tuple, isi_d_list, isi_d_dict,
  deref_tup, deref_lst, deref_int, deref_str, deref_bl, deref_non, deref_scr, rLt_i, rLt_s, rLe_i, rLe_s, rInts_i, rInts0_i, rAdd_i, rAdd_s, rAdd_l, rAdd_t, rCatO_l, rNeg_i, rLen_t, rLen_l, rLen_c, rLen_s, rMax_i, rMin_i, rInt_i, rInt_b, rDivmod_i, ap_gAug, rStr_i, rList_l, rList_t, rListO_l, rListO_t, rTup_l, rTup_t,
  rIx_t0, rIx_t1, rIx_t2, rIx_t3, rIx_l0, rIx_l1, rIx_l2, rIsN_x, isNon_t, isNon_n, isNon_i, isNon_s, isNon_l, rEq_i, rEq_b, rEq_i2, rEq_b2, rJoin_m, rSplit_s, tyOk_l, tyOk_s, patD_nm, patD_tp, patDs_nil, patDs_cons, Option.bind_some, notX, notX',
  List.map_cons, List.map_nil, List.length_cons, List.length_nil, List.cons_append, List.nil_append, List.append_nil, List.replicate, List.getElem?_cons_zero, List.getElem?_cons_succ, List.set_cons_zero, List.set_cons_succ, updO_same, updO_updO,
  Nat.reduceSub, Nat.reduceAdd, Nat.reduceLeDiff, Nat.zero_add, Int.cast_ofNat_Int, Int.natCast_zero, Int.natCast_one, Int.reduceLT, Int.reduceLE, Int.reduceEq, Int.reduceAdd, Int.reduceSub, Int.reduceNeg, decide_true, decide_false, if_true, if_false, Bool.false_eq_true, eq_self, reduceIte, Bool.true_eq_false, decide_eq_true_eq, Bool.not_true, Bool.not_false, Bool.not_eq_true', decide_eq_false_iff_not, exists_eq_left', exists_eq_left, D.bl.injEq, true_and, and_true, not_true_eq_false, not_false_eq_true])
local macro_rules | `(tactic| walk_at "len") => `(tactic| (intro ds O R RE h; first | (obtain ⟨e, _⟩ := h; subst e; rfl) | (obtain ⟨_, e, _⟩ := h; subst e; rfl) | (obtain ⟨_, _, e, _⟩ := h; subst e; rfl) | (obtain ⟨_, _, _, e, _⟩ := h; subst e; rfl) | (obtain ⟨_, _, _, _, e, _⟩ := h; subst e; rfl) | (obtain ⟨_, _, _, _, _, e, _⟩ := h; subst e; rfl) | (obtain ⟨_, _, _, _, _, _, e, _⟩ := h; subst e; rfl) | (obtain ⟨_, _, _, _, _, _, _, e, _⟩ := h; subst e; rfl) | (obtain ⟨_, _, _, _, _, _, _, _, e, _⟩ := h; subst e; rfl) | (obtain ⟨_, _, _, _, _, _, _, _, _, e, _⟩ := h; subst e; rfl)))
local macro_rules | `(tactic| walk_at "kf1") => `(tactic| simp (config := { failIfUnchanged := false }) only [startD, ap_fiEnumT, asT1_t, ap_fKGet, asStr_s, ap_fKIn, ap_fKIx, ap_gAsgL, rUnl_l, ap_fiRng3, asR3_i, rSplitO_s, ap_fOrL, rOrL_l, ap_fLcK, ap_gForK, ap_fMaxD, rMaxD_l, rMaxL_l, ap_fCallXD, ap_gForE, asLE_l, ap_fFrz, ap_fDicO, ap_fDGet, ap_fDGet1, ap_fDGet2, ap_gDPut, ap_fIsiT, ap_gForR, rRep_l, isT_i, isT_s, isT_b, isT_n, isT_t, isT_l, ap_gIf, ap_gRet, ap_gNext, ap_gSet, ap_gAsg, ap_gPar, ap_gDrop, ap_gRetF, ap_gRetN, ap_gFor, ap_gSetIx, ap_gBreak, ap_fRev, ap_fiRevR, asIR_i, rRev_l, ap_fCallX, ap_gRaise, ap_gTry, ap_gTryAs, ap_gNever, ap_fEdic, ap_fTest, ap_fOp, ap_fVar, envGet_s, patGet_s, ap_fC, ap_fCB, ap_fCons, ap_fNil, ap_fCall, ap_fAnd, ap_fOr, ap_fNot, ap_fAndV, ap_fOrV, ap_fNotV, ap_fIf, ap_fTup, ap_fLst, ap_fLstO, ap_fChain, ap_fUn, ap_fBM, ap_fBM0, ap_fPool, rPool_i, ap_fSl, ap_fPart, ap_fNoPart, asI_i, rSl_l, ap_fiRng1, ap_fiRng2, ap_fiList, ap_fiTup, ap_fiStr, ap_fiEnum, ap_fiZip, ap_fiRev, asL_l, asT_t, asSg_s, asR1_i, asR2_i, asL1_l, asL2_l, ap_fLc, ap_fLcO, ap_fYes, wipeD, lcD, isi_i_int, isi_i_bool, isi_i_str, isi_i_tuple, isi_i_list, isi_i_dict, isi_b_int, isi_b_bool, isi_b_str, isi_b_tuple, isi_b_list, isi_b_dict, isi_s_int, isi_s_bool, isi_s_str, isi_s_tuple, isi_s_list, isi_s_dict, isi_t_int, isi_t_bool, isi_t_str, isi_t_tuple, isi_t_list, isi_t_dict, isi_l_int, isi_l_bool, isi_l_str, isi_l_tuple, isi_l_list, isi_l_dict, isi_n_int, isi_n_bool, isi_n_str, isi_n_tuple, isi_n_list, isi_n_dict, isi_d_int, isi_d_bool, isi_d_str, isi_d_tuple, isi_d_list, isi_d_dict,
  deref_tup, deref_lst, deref_int, deref_str, deref_bl, deref_non, deref_scr, rLt_i, rLt_s, rLe_i, rLe_s, rInts_i, rInts0_i, rAdd_i, rAdd_s, rAdd_l, rAdd_t, rCatO_l, rNeg_i, rLen_t, rLen_l, rLen_c, rLen_s, rMax_i, rMin_i, rInt_i, rInt_b, rDivmod_i, ap_gAug, rStr_i, rList_l, rList_t, rListO_l, rListO_t, rTup_l, rTup_t,
  rIx_t0, rIx_t1, rIx_t2, rIx_t3, rIx_l0, rIx_l1, rIx_l2, rIsN_x, isNon_t, isNon_n, isNon_i, isNon_s, isNon_l, rEq_i, rEq_b, rEq_i2, rEq_b2, rJoin_m, rSplit_s, tyOk_l, tyOk_s, patD_nm, patD_tp, patDs_nil, patDs_cons, Option.bind_some, notX, notX',
  List.map_cons, List.map_nil, List.length_cons, List.length_nil, List.cons_append, List.nil_append, List.append_nil, List.replicate, List.getElem?_cons_zero, List.getElem?_cons_succ, List.set_cons_zero, List.set_cons_succ, updO_same, updO_updO,
  Nat.reduceSub, Nat.reduceAdd, Nat.reduceLeDiff, Nat.zero_add, Int.cast_ofNat_Int, Int.natCast_zero, Int.natCast_one, Int.reduceLT, Int.reduceLE, Int.reduceEq, Int.reduceAdd, Int.reduceSub, Int.reduceNeg, decide_true, decide_false, if_true, if_false, Bool.false_eq_true, eq_self, reduceIte, Bool.true_eq_false, decide_eq_true_eq, Bool.not_true, Bool.not_false, Bool.not_eq_true', decide_eq_false_iff_not, exists_eq_left', exists_eq_left, D.bl.injEq, true_and, and_true, not_true_eq_false, not_false_eq_true])
section
variable {P : Program} {w : World} {K : PySem.W.Frag} {mg : Str → Option Value} {base : Heap}
local macro_rules | `(tactic| walk_at "tg") => `(tactic| simp (config := { failIfUnchanged := false }) only [te_name_take, te_name_give, te_name_pair, te_name_first, te_name_second, te_name_to, te_name_both, te_name_one, te_name_mark, te_name_name, te_name_thing, te_name_at, te_thing_take, te_thing_give, te_thing_pair, te_thing_first, te_thing_second, te_thing_to, te_thing_both, te_thing_one, te_thing_mark, te_thing_name, te_thing_thing, te_thing_at, te_take_take, te_take_give, te_take_pair, te_take_first, te_take_second, te_take_to, te_take_both, te_take_one, te_take_mark, te_take_name, te_take_thing, te_take_at, te_give_take, te_give_give, te_give_pair, te_give_first, te_give_second, te_give_to, te_give_both, te_give_one, te_give_mark, te_give_name, te_give_thing, te_give_at, te_pair_take, te_pair_give, te_pair_pair, te_pair_first, te_pair_second, te_pair_to, te_pair_both, te_pair_one, te_pair_mark, te_pair_name, te_pair_thing, te_pair_at, te_first_take, te_first_give, te_first_pair, te_first_first, te_first_second, te_first_to, te_first_both, te_first_one, te_first_mark, te_first_name, te_first_thing, te_first_at, te_second_take, te_second_give, te_second_pair, te_second_first, te_second_second, te_second_to, te_second_both, te_second_one, te_second_mark, te_second_name, te_second_thing, te_second_at, te_mark_take, te_mark_give, te_mark_pair, te_mark_first, te_mark_second, te_mark_to, te_mark_both, te_mark_one, te_mark_mark, te_mark_name, te_mark_thing, te_mark_at, te_one_take, te_one_give, te_one_pair, te_one_first, te_one_second, te_one_to, te_one_both, te_one_one, te_one_mark, te_one_name, te_one_thing, te_one_at, te_to_take, te_to_give, te_to_pair, te_to_first, te_to_second, te_to_to, te_to_both, te_to_one, te_to_mark, te_to_name, te_to_thing, te_to_at, te_both_take, te_both_give, te_both_pair, te_both_first, te_both_second, te_both_to, te_both_both, te_both_one, te_both_mark, te_both_name, te_both_thing, te_both_at, te_at_take, te_at_give, te_at_pair, te_at_first, te_at_second, te_at_to, te_at_both, te_at_one, te_at_mark, te_at_name, te_at_thing, te_at_at, ti4_name, ti4_thing, ti4_take, ti4_give, ti4_pair, ti4_first, ti4_second, ti2_name, ti2_thing, ti2_take, ti2_give, ti2_pair, ti2_first, ti2_second, szT_0, szT_1, szT_2, szT_3, szT_4, szT_5, szT_6, szT_7, szT_8, szT_9, szT_10, szT_11, szT_12, Bool.not_true, Bool.not_false, true_and])
theorem rIsXD_t {O : Ow} {Q : VD} {a C : Addr} {fs : Option (List (Str × D))} {cs : List D} {us : List Value} {b : Bool} (h : O a = some (.exc (.ref C) fs)) (hC : ExcC K C) (p : Paired clsD cs us) (e : PySem.W.kitAny K (.ref C) us = some b) (q : Q (.bl b) O) : rIsXD K [.ref a, .tup cs] O Q := ⟨C, fs, us, b, h, hC, p, e, q⟩
theorem rIsXD_r {O : Ow} {Q : VD} {a C c : Addr} {fs : Option (List (Str × D))} {b : Bool} (h : O a = some (.exc (.ref C) fs)) (hC : ExcC K C) (e : PySem.W.kitOne K (.ref C) (.ref c) = some b) (q : Q (.bl b) O) : rIsXD K [.ref a, .ref c] O Q := ⟨C, fs, .ref c, b, h, hC, rfl, e, q⟩
theorem rIsXD_y {O : Ow} {Q : VD} {a C : Addr} {c : String} {fs : Option (List (Str × D))} {b : Bool} (h : O a = some (.exc (.ref C) fs)) (hC : ExcC K C) (e : PySem.W.kitOne K (.ref C) (.type c) = some b) (q : Q (.bl b) O) : rIsXD K [.ref a, .ty c] O Q := ⟨C, fs, .type c, b, h, hC, rfl, e, q⟩
theorem deqs_kv : ∀ kn : List (Str × Kd), deqs (kn.map kv) (kn.map kv) = true
  | [] => deqs_nn
  | q :: r => by rw [List.map_cons, deqs_cc, deqs_kv r, deq_t, deqs_cc, deqs_cc, deqs_nn, deq_s, deq_K]; simp
theorem dp_kv {kn : List (Str × Kd)} (h : ∀ q ∈ kn, q.2.depth ≤ 100) : dp (.lst (kn.map kv)) ≤ 103 := by
  rw [dpL]
  have : PyData.depthAll (toPys (kn.map kv)) ≤ 102 := dps_le fun d hd => by
    obtain ⟨q, hq, rfl⟩ := List.mem_map.mp hd
    have := h q hq
    rw [dpT, dpC, dpC, dpN, dpS, dp_dK]; omega
  omega
theorem rEq_kv {kn : List (Str × Kd)} {neg : Bool} {O : Ow} {Q : VD} (h : ∀ q ∈ kn, PyData.strOk q.1 = true ∧ q.2.ok = true) (hd : ∀ q ∈ kn, q.2.depth ≤ 100) : rEqD neg (.lst (kn.map kv)) (.lst (kn.map kv)) O Q = Q (.bl (!neg)) O := by
  have hp : isPy (.lst (kn.map kv)) = true := by
    simp only [isPy]
    rw [isPys_all, List.all_eq_true]
    intro d hd
    obtain ⟨q, hq, rfl⟩ := List.mem_map.mp hd
    simp only [isPy, isPys, isPy_dK, (h q hq).1, (h q hq).2, Bool.and_self]
  rw [rEq_d (by rw [deref_lst]; exact hp) (by rw [deref_lst]; exact hp) (by rw [deref_lst]; exact Nat.le_trans (dp_kv hd) (by decide)), deref_lst, deq_l, deqs_kv]
  cases neg <;> rfl
theorem odd08 (T : Tx K mg) : PySem.W.kitAny K (.ref T.C_NoFit) [.ref T.C_NoKind, .ref T.C_NoLong, .ref T.C_NoMaking, .ref T.C_NoText, .ref T.C_TooLong, .ref T.C_TooMany] = some false := by
  refine kitAny_no fun c hc => ?_
  simp only [List.mem_cons, List.not_mem_nil, or_false] at hc
  rcases hc with rfl | rfl | rfl | rfl | rfl | rfl
  · exact T.k_NoKind.kit T.sb_NoFit_NoKind
  · exact T.k_NoLong.kit T.sb_NoFit_NoLong
  · exact T.k_NoMaking.kit T.sb_NoFit_NoMaking
  · exact T.k_NoText.kit T.sb_NoFit_NoText
  · exact T.k_TooLong.kit T.sb_NoFit_TooLong
  · exact T.k_TooMany.kit T.sb_NoFit_TooMany
/-- a place that is told is not long -/
theorem kfin_pl {e : Str → Option Kd} {p : Pg} {ks : List Kd} {pl w : List Int} (h : kfin e p ks pl = .error w) : w = pl := by
  unfold kfin at h
  split at h
  · cases h
  · cases h; rfl
theorem kby_len : ∀ (p : Pg) (e : Str → Option Kd) (pl w : List Int), kby e p pl = .error w → w.length ≤ pl.length + p.hgt
  | .nm x, e, pl, w, h => by rw [kfin_pl h]; omega
  | .thing, e, pl, w, h => by cases h
  | .take x k b, e, pl, w, h => by
    simp only [kby] at h
    split at h
    · cases h
    · rename_i w' e1
      cases h
      have := kby_len b _ _ _ e1
      simp only [List.length_append, List.length_singleton, Pg.hgt] at this ⊢
      omega
  | .give f a, e, pl, w, h => by
    simp only [kby] at h
    split at h
    · rename_i w' e1
      cases h
      have := kby_len f _ _ _ e1
      simp only [List.length_append, List.length_singleton, Pg.hgt] at this ⊢
      omega
    · split at h
      · rename_i w' e1
        cases h
        have := kby_len a _ _ _ e1
        simp only [List.length_append, List.length_singleton, Pg.hgt] at this ⊢
        omega
      · rw [kfin_pl h]; omega
  | .pair f a, e, pl, w, h => by
    simp only [kby] at h
    split at h
    · rename_i w' e1
      cases h
      have := kby_len f _ _ _ e1
      simp only [List.length_append, List.length_singleton, Pg.hgt] at this ⊢
      omega
    · split at h
      · rename_i w' e1
        cases h
        have := kby_len a _ _ _ e1
        simp only [List.length_append, List.length_singleton, Pg.hgt] at this ⊢
        omega
      · rw [kfin_pl h]; omega
  | .first f, e, pl, w, h => by
    simp only [kby] at h
    split at h
    · rename_i w' e1
      cases h
      have := kby_len f _ _ _ e1
      simp only [List.length_append, List.length_singleton, Pg.hgt] at this ⊢
      omega
    · rw [kfin_pl h]; omega
  | .second f, e, pl, w, h => by
    simp only [kby] at h
    split at h
    · rename_i w' e1
      cases h
      have := kby_len f _ _ _ e1
      simp only [List.length_append, List.length_singleton, Pg.hgt] at this ⊢
      omega
    · rw [kfin_pl h]; omega
def dTold08 : Except (List Int) Kd → D
  | .ok k => .tup [.str (Str.ofString "told"), dK k]
  | .error w => .tup [.str (Str.ofString "none"), dI w]
def spTold08 : DSp := fun ds O R _ => ∃ (x : D) (kn : List (Str × Kd)) (p : Pg), ds = [x, dP p] ∧ x = .lst (kn.map kv) ∧ KnOk kn ∧ p.sok = true ∧ p.ka ∧ p.hgt ≤ 110 ∧ kn.length ≤ 100 ∧ R (dTold08 (kby (envOf kn) p [])) O
theorem ok_told08 (T : Tx K mg) : FO__law_told P w base T 116 spTold08 := by
  refine fndG__law_told T (ok_kindX T) (by walk_at "len") ?_
  rintro ds O R RE ⟨_, kn, p, rfl, rfl, hkn, hs, hka, hh, hl, hR⟩
  unfold g__law_told
  refine gSeq_step ?_
  walk_at "kf1"
  refine gSeq_step ?_
  walk_at "kf1"
  refine ⟨_, kn, p, rfl, rfl, hkn, hs, hka, hh, hl, fun k hk => ?_, fun w hw b O' hb0 hsb hb => ⟨true, T.k_KindError.exm T.sb_NoFit_KindError, fun _ a ha => ?_, fun h => nomatch h⟩⟩
  · rw [hk] at hR
    try dsimp only
    walk_at "kf1"
    refine ⟨sz_small (by decide), ?_⟩
    refine gSeq_step ?_
    walk_at "kf1"
    exact ⟨O, Sub.refl _, hR⟩
  · rw [hw] at hR
    try dsimp only
    walk_at "kf1"
    simp only [endsKeep]
    intro ha'
    have hbx : ∀ c, updO O' a c b = some (.lst (w.map .int)) := fun c => upd_keep hb ha'
    generalize hO2 : updO O' a (.exc (.ref T.C_NoFit) (some [(Str.ofString "place", .ref b)])) = O2
    have ha2 : O2 a = some (.exc (.ref T.C_NoFit) (some [(Str.ofString "place", .ref b)])) := by rw [← hO2, updO_same]
    have hb2 : O2 b = some (.lst (w.map .int)) := by rw [← hO2]; exact hbx _
    have hs2 : Sub O O2 := by rw [← hO2]; exact hsb.trans (sub_upd ha')
    refine gSeq_step ?_
    walk_at "kf1"
    rw [if_neg (by simp [isNon])]
    refine gSeq_step ?_
    walk_at "kf1"
    refine rIsXD_r ha2 T.ec_NoFit (T.k_NoFit.kit T.k_NoFit.sf) ?_
    walk_at "kf1"
    refine rIsXD_y ha2 T.ec_NoFit (kit_VE T.sb_NoFit_ValueError) ?_
    walk_at "kf1"
    refine gSeq_step ?_
    walk_at "kf1"
    refine ⟨sz_small (by decide), ?_⟩
    refine rIsXD_t ha2 T.ec_NoFit (.cons rfl (.cons rfl (.cons rfl (.cons rfl (.cons rfl (.cons rfl .nil)))))) (odd08 T) ?_
    walk_at "kf1"
    rw [ap_fXf]
    walk_at "kf1"
    refine ⟨a, T.C_NoFit, _, .ref b, rfl, ha2, by simp [List.lookup], T.ec_NoFit, T.xi_NoFit.no, ?_⟩
    have tyb : tyNm O2 (.ref b) = "list" := by simp only [tyNm, hb2]
    rw [rIsi_ty (by decide) (by rw [tyb]; decide), tyb, show insOf "list" "list" = true from by decide]
    walk_at "kf1"
    refine gSeq_step ?_
    walk_at "kf1"
    rw [ap_fXf]
    walk_at "kf1"
    refine ⟨a, T.C_NoFit, _, .ref b, rfl, ha2, by simp [List.lookup], T.ec_NoFit, T.xi_NoFit.no, ?_⟩
    walk_at "kf1"
    rw [show ∀ Q : VD, rList1 [.ref b] O2 Q = Q (.lst (w.map .int)) O2 from fun Q => by simp only [rList1, deref, hb2]]
    refine ⟨sz_small (by decide), ?_⟩
    refine gSeq_step ?_
    walk_at "kf1"
    rw [ap_fXf]
    walk_at "kf1"
    refine ⟨a, T.C_NoFit, _, .ref b, rfl, ha2, by simp [List.lookup], T.ec_NoFit, T.xi_NoFit.no, ?_⟩
    walk_at "kf1"
    refine ⟨tyOk_r hb2, ?_⟩
    rw [rApp_r hb2]
    refine ⟨?_, ?_⟩
    · have := kby_len p _ _ _ hw
      rw [List.length_map]
      exact Nat.lt_of_lt_of_le (show w.length < 1000 by simp only [List.length_nil] at this; omega) (by decide)
    walk_at "kf1"
    exact ⟨O, fun y c hy => by rw [updO_ne (fun z => by rw [z, hb0] at hy; cases hy)]; exact hs2 y c hy, hR⟩
theorem pgu_v : ∀ p : Pg, pgu p → pgv 4 p
  | .nm x, h => h
  | .thing, _ => trivial
  | .take x k b, h => ⟨h.1, h.2.1, h.2.2.1, pgu_v b h.2.2.2⟩
  | .give f a, h => ⟨pgu_v f h.1, pgu_v a h.2⟩
  | .pair f a, h => ⟨pgu_v f h.1, pgu_v a h.2⟩
  | .first f, h => pgu_v f h
  | .second f, h => pgu_v f h
theorem told_refl {r : Except (List Int) Kd} {neg : Bool} {O : Ow} {Q : VD} (h : ∀ k, r = .ok k → k.ok = true ∧ k.depth ≤ 150) : rEqD neg (dTold08 r) (dTold08 r) O Q = Q (.bl (!neg)) O := by
  cases r with
  | ok k =>
    obtain ⟨h1, h2⟩ := h k rfl
    have hp : isPy (dTold08 (.ok k)) = true := by simp [dTold08, isPy, isPys, isPy_dK, h1]; decide +kernel
    rw [rEq_d (by rw [show deref O (dTold08 (.ok k)) = dTold08 (.ok k) from rfl]; exact hp) (by rw [show deref O (dTold08 (.ok k)) = dTold08 (.ok k) from rfl]; exact hp) (by
      rw [show deref O (dTold08 (.ok k)) = dTold08 (.ok k) from rfl]
      have := dp_dK k
      simp only [dTold08, dpT, dpC, dpN, dpS]
      omega), show deref O (dTold08 (.ok k)) = dTold08 (.ok k) from rfl, show deq (dTold08 (.ok k)) (dTold08 (.ok k)) = true from SeqAt.eqv_refl _ (isPy_lay _ hp)]
    simp
  | error w =>
    have hp : isPy (dTold08 (.error w)) = true := by
      have z : PyData.strOk (Str.ofString "none") = true := by decide +kernel
      simp only [dTold08, isPy, isPys, Bool.and_true, z, isPys_ints, dI, Bool.true_and]
    rw [rEq_d (by rw [show deref O (dTold08 (.error w)) = dTold08 (.error w) from rfl]; exact hp) (by rw [show deref O (dTold08 (.error w)) = dTold08 (.error w) from rfl]; exact hp) (by
      rw [show deref O (dTold08 (.error w)) = dTold08 (.error w) from rfl]
      have := dp_ints w
      simp only [dTold08, dpT, dpC, dpN, dpS]
      show max 0 (max (dp (.lst (w.map .int))) 0) + 1 ≤ 190
      omega), show deref O (dTold08 (.error w)) = dTold08 (.error w) from rfl, show deq (dTold08 (.error w)) (dTold08 (.error w)) = true from SeqAt.eqv_refl _ (isPy_lay _ hp)]
    simp
theorem gSeq_via08 {g h : GS} {R : DEnds} {ρ : DEnv} {O : Ow} (I : DEnv → Ow → Prop) (hI : ∀ ρ O, I ρ O → h R ρ O) (H : ∀ N : DEnv → Ow → Prop, (∀ ρ O, I ρ O → N ρ O) → g { R with nx := N } ρ O) : gSeq g h R ρ O := gSeq_step (H _ hI)
theorem ok_law (T : Tx K mg) : FO_law P w base T 215 (lawSp 63) := by
  refine fndG_law T (ok_pool T.n__law_pool T.m_len) (fnUp (ok_rowU T) (by omega)) (fnUp (ok_drawnU T) (by omega)) (fnUp (ok_told08 T) (by omega)) (fnUp (ok_pts T 100) (by omega)) (ok_take T.n__law_take) (fnUp (ok_with T 100) (by omega)) (fnUp (ok_kb T 120) (by omega)) (by walk_at "len") ?_
  rintro ds O R RE ⟨ns, rfl, hl, hR⟩
  unfold g_law
  refine gSeq_step ?_
  walk_at "kf1"
  obtain ⟨b1, b2, b3⟩ := rngBound ns.length 16 (by decide) (by decide)
  refine ⟨b1, b2, forD_inv (fun ρ O => ∃ x1 x2 x3 x4 x5 x6 x7 x8 x9 x10 x11, ρ = [some (.scr ns), x1, x2, x3, x4, x5, x6, x7, x8, x9, x10, x11]) _ _ _ ⟨_, _, _, _, _, _, _, _, _, _, _, rfl⟩ (fun ρ O _ => ?_) ?_⟩
  · walk_at "kf"
    exact ⟨_, Sub.refl _, hR _⟩
  rintro d hd ρ O' ⟨x1, x2, x3, x4, x5, x6, x7, x8, x9, x10, x11, rfl⟩ Nx hN
  obtain ⟨i, hi, rfl⟩ := mem_rangeD hd
  walk_at "kf1"
  refine gSeq_step ?_
  walk_at "kf1"
  refine ⟨ns, _, rfl, by omega, by omega, fun pa hpa => ?_⟩
  try dsimp only
  refine gSeq_step ?_
  walk_at "kf1"
  refine ⟨pa, rfl, updO_same, fun kn hkn hknl hfr => ?_⟩
  try dsimp only
  refine gSeq_step ?_
  walk_at "kf1"
  refine ⟨pa, kn, 150, rfl, updO_same, hkn, hknl, by omega, fun k p hko hkl hph hpz hpk => ?_⟩
  have hps := pgu_ok p hpk.2
  have hpa2 := pgu_ka p hpk.2
  have hkOk : KnOk kn := ⟨fun q hq => un_ok _ (hkn.nm q hq).1, fun q hq => ⟨over_k (hkn.nm q hq).2.1, by have := q.2.depth_lt; have := (hkn.nm q hq).2.2; omega⟩⟩
  try dsimp only
  walk_at "kf1"
  have hk0 : kby (envOf kn) p [] = .ok k := kby_has p _ k [] hpk.1
  have hkd : k.ok = true ∧ k.depth ≤ 150 := ⟨over_k hko, by have := k.depth_lt; omega⟩
  refine gSeq_step ?_
  walk_at "kf1"
  refine ⟨_, kn, p, rfl, rfl, hkOk, hps.1, hpa2, by omega, by omega, ?_⟩
  rw [hk0]
  try dsimp only
  walk_at "kf1"
  refine ⟨sz_small (by decide), ?_⟩
  rw [show D.tup [.str (Str.ofString "told"), dK k] = dTold08 (.ok k) from rfl, told_refl (fun k' e => by cases e; exact hkd), Bool.not_true]
  walk_at "kf1"
  refine gSeq_step ?_
  walk_at "kf1"
  refine ⟨by decide, p, [], rfl, by omega, by omega, by simp only [List.length_nil]; omega, ?_⟩
  try dsimp only
  have hpp : updO O' pa .pool pa = some .pool := updO_same
  generalize updO O' pa .pool = O1 at hpp ⊢
  refine gSeq_via08 (fun ρ O => O = O1 ∧ ∃ p' : Pg, p'.sok = true ∧ p'.ka ∧ p'.hgt ≤ 80 ∧ ρ = [some (.scr ns), some (.int (0 + (i : Int))), some (.ref pa), some (.lst (kn.map kv)), some (dK k), some (dP p'), some (.lst ((prts p []).map dPt)), x7, x8, x9, x10, x11]) ?_ ?_
  rotate_left
  · intro N hN2
    walk_at "kf1"
    refine take_of hpp (by decide) (by decide) fun r0 h00 h01 => ?_
    have hlen : ((prts p []).map dPt).length = p.psz := by rw [List.length_map, prts_len]
    have hp1 : 1 ≤ p.psz := by cases p <;> simp only [Pg.psz] <;> omega
    walk_at "kf1"
    rw [hlen]
    split
    · split
      · refine take_of hpp (by omega) (by omega) fun r1 h10 h11 => ?_
        refine rIx_any h10 (by rw [hlen]; exact h11) fun v hv => ?_
        obtain ⟨t1, ht1, rfl⟩ := List.mem_map.mp hv
        walk_at "kf1"
        refine take_of hpp (by omega) (by omega) fun r2 h20 h21 => ?_
        refine rIx_any h20 (by rw [hlen]; exact h21) fun v hv => ?_
        obtain ⟨t2, ht2, rfl⟩ := List.mem_map.mp hv
        walk_at "kf1"
        rw [prts_wk p [] []] at ht1 ht2
        obtain ⟨u1, hu1, rfl⟩ := List.mem_map.mp ht1
        obtain ⟨u2, hu2, rfl⟩ := List.mem_map.mp ht2
        obtain ⟨s1, k1⟩ := wk_all (B := 4) p [] [] u1 hu1
        obtain ⟨s2, k2⟩ := wk_all (B := 4) p [] [] u2 hu2
        have hpv := pgu_v p hpk.2
        obtain ⟨v1, v2, v3⟩ := wp_pgv (k2.pg hpv) p s1 hpv
        have g1 := k1.hg
        have g2 := k2.hg
        have e1 : u1.2.2 = s1 := by rw [k1.pl]; rfl
        refine ⟨p, u1.1, u2.1, s1, by rw [e1], by omega, k1.pt, hN2 _ _ ⟨rfl, _, (pgv_ok _ v1).1, pgv_ka (by omega) _ v1, by omega, rfl⟩⟩
      · exact hN2 _ _ ⟨rfl, p, hps.1, hpa2, by omega, rfl⟩
    · exact hN2 _ _ ⟨rfl, p, hps.1, hpa2, by omega, rfl⟩
  rintro ρ O1 ⟨rfl, p', q1, q2, q3, rfl⟩
  have kd8 : ∀ (kn' : List (Str × Kd)) (k' : Kd), KnOk kn' → kby (envOf kn') p' [] = .ok k' → k'.ok = true ∧ k'.depth ≤ 150 := fun kn' k' h1 h2 => by
    have := kd_has p' _ k' (kby_ok p' _ k' _ h2) h1.e q2
    exact ⟨this.1, by omega⟩
  have kn0 : KnOk [] := ⟨fun _ h => (nomatch h), fun _ h => (nomatch h)⟩
  refine gSeq_via08 (fun ρ O => O = O1 ∧ ∃ x7 x8 : D, ((∃ k', kby (envOf kn) p' [] = .ok k' ∧ x7 = dK k') ∨ (∃ w', kby (envOf kn) p' [] = .error w' ∧ x7 = .non ∧ x8 = dI w')) ∧ ρ = [some (.scr ns), some (.int (0 + (i : Int))), some (.ref pa), some (.lst (kn.map kv)), some (dK k), some (dP p'), some (.lst ((prts p []).map dPt)), some x7, some x8, x9, x10, x11]) ?_ ?_
  rotate_left
  · intro N hN2
    walk_at "kf1"
    refine ⟨by decide, kn, p', [], rfl, by omega, hkOk, q1, q2, by omega, by omega, by simp only [List.length_nil]; omega, fun k' e x => ?_, fun w' e => ?_⟩
    · walk_at "kf1"
      exact hN2 _ _ ⟨rfl, _, _, .inl ⟨k', e, rfl⟩, rfl⟩
    · walk_at "kf1"
      exact hN2 _ _ ⟨rfl, _, _, .inr ⟨w', e, rfl, rfl⟩, rfl⟩
  rintro ρ O1 ⟨rfl, x7, x8, hx, rfl⟩
  refine gSeq_via08 (fun ρ O => O = O1 ∧ ρ = [some (.scr ns), some (.int (0 + (i : Int))), some (.ref pa), some (.lst (kn.map kv)), some (dK k), some (dP p'), some (.lst ((prts p []).map dPt)), some x7, some x8, some (dTold08 (kby (envOf kn) p' [])), x10, x11]) ?_ ?_
  rotate_left
  · intro N hN2
    walk_at "kf1"
    refine ⟨by decide, by decide, by decide, ?_⟩
    rcases hx with ⟨k', e, rfl⟩ | ⟨w', e, rfl, rfl⟩
    · rw [isNonK]
      walk_at "kf1"
      exact hN2 _ _ ⟨rfl, by rw [e]; rfl⟩
    · walk_at "kf1"
      exact hN2 _ _ ⟨rfl, by rw [e]; rfl⟩
  rintro ρ O1 ⟨rfl, rfl⟩
  refine gSeq_via08 (fun ρ O => O = O1 ∧ ∃ x7 x8 : D, ((∃ k', kby (envOf []) p' [] = .ok k' ∧ x7 = dK k') ∨ (∃ w', kby (envOf []) p' [] = .error w' ∧ x7 = .non ∧ x8 = dI w')) ∧ ρ = [some (.scr ns), some (.int (0 + (i : Int))), some (.ref pa), some (.lst (kn.map kv)), some (dK k), some (dP p'), some (.lst ((prts p []).map dPt)), some x7, some x8, some (dTold08 (kby (envOf kn) p' [])), x10, x11]) ?_ ?_
  rotate_left
  · intro N hN2
    walk_at "kf1"
    refine ⟨by decide, by decide, [], p', [], rfl, by omega, kn0, q1, q2, by omega, by simp only [List.length_nil]; omega, by simp only [List.length_nil]; omega, fun k' e x => ?_, fun w' e => ?_⟩
    · walk_at "kf1"
      exact hN2 _ _ ⟨rfl, _, _, .inl ⟨k', e, rfl⟩, rfl⟩
    · walk_at "kf1"
      exact hN2 _ _ ⟨rfl, _, _, .inr ⟨w', e, rfl, rfl⟩, rfl⟩
  rintro ρ O1 ⟨rfl, y7, y8, hy, rfl⟩
  refine gSeq_via08 (fun ρ O => O = O1 ∧ ρ = [some (.scr ns), some (.int (0 + (i : Int))), some (.ref pa), some (.lst (kn.map kv)), some (dK k), some (dP p'), some (.lst ((prts p []).map dPt)), some y7, some y8, some (dTold08 (kby (envOf kn) p' [])), x10, x11]) ?_ ?_
  rotate_left
  · intro N hN2
    walk_at "kf1"
    refine ⟨by decide, _, [], p', rfl, rfl, kn0, q1, q2, by omega, by simp only [List.length_nil]; omega, ?_⟩
    try dsimp only
    refine ⟨by decide, by decide, by decide, ?_⟩
    have same : ∀ Q : VD, rEqD true (dTold08 (kby (envOf []) p' [])) (dTold08 (kby (envOf []) p' [])) O1 Q = Q (.bl (!true)) O1 := fun Q => told_refl (fun k' e => kd8 [] k' kn0 e)
    rcases hy with ⟨k', e, rfl⟩ | ⟨w', e, rfl, rfl⟩
    · rw [isNonK]
      walk_at "kf1"
      rw [e] at same ⊢
      rw [show D.tup [.str (Str.ofString "told"), dK k'] = dTold08 (.ok k') from rfl, same, Bool.not_true]
      walk_at "kf1"
      exact hN2 _ _ ⟨rfl, rfl⟩
    · walk_at "kf1"
      rw [e] at same ⊢
      rw [show D.tup [.str (Str.ofString "none"), dI w'] = dTold08 (.error w') from rfl, same, Bool.not_true]
      walk_at "kf1"
      exact hN2 _ _ ⟨rfl, rfl⟩
  rintro ρ O1 ⟨rfl, rfl⟩
  refine gSeq_step ?_
  walk_at "kf1"
  refine ⟨by decide, by decide, forD_inv (fun ρ O => ∃ x11 : Option D, ρ = [some (.scr ns), some (.int (0 + (i : Int))), some (.ref pa), some (.lst (kn.map kv)), some (dK k), some (dP p'), some (.lst ((prts p []).map dPt)), some y7, some y8, some (dTold08 (kby (envOf kn) p' [])), some (.lst (kn.map kv)), x11]) _ _ _ ⟨_, rfl⟩ (fun ρ O ⟨x11, e⟩ => hN _ _ ⟨_, _, _, _, _, _, _, _, _, _, _, e⟩) ?_⟩
  rintro d hd ρ O2 ⟨x11, rfl⟩ N2 hN2
  obtain ⟨j, hj, rfl⟩ := mem_rangeD hd
  walk_at "kf1"
  refine ⟨_, kn, p', rfl, rfl, hkOk, q1, q2, by omega, by omega, ?_⟩
  try dsimp only
  rw [told_refl (fun k' e => kd8 kn k' hkOk e), Bool.not_true]
  walk_at "kf1"
  rw [rEq_kv (fun q hq => ⟨hkOk.nm q hq, (hkOk.kd q hq).1⟩) (fun q hq => by have := (hkOk.kd q hq).2; omega), Bool.not_true]
  walk_at "kf1"
  exact hN2 _ _ ⟨_, rfl⟩
end
theorem fn_mk {K : PySem.W.Frag} {h : Heap} {mg : Str → Option Value} {x : Str} {st : Stmt} {ps : List Str} {f : Addr} {oc : Value} {od an : Option Addr} {osl : Array (Option Value)} {kV doc pm cdv ct : Value} (X : K.In h) (G : h.Ns mainGlobals mg)
    (a : PySem.W.nsIn K mainGlobals x = some (some (.ref f))) (l : K.lookup f = some ⟨oc, od, .func (PySem.W.fnOf x x (defArgs st) (defBody st) (defScope st) .none kV doc pm an cdv ct), osl⟩) (c : PySem.W.codeIn K cdv x = true) (k : PySem.W.keepIn K (.ref f) = true)
    (b : ∀ (kV doc pm : Value) (an : Option Addr) (cdv ct : Value) (us : List Value), us.length = ps.length → bindArgs (PySem.W.fnOf x x (defArgs st) (defBody st) (defScope st) .none kV doc pm an cdv ct) ⟨us, []⟩ = pure (ps.zip us)) :
    Fn K mg x st ps f (PySem.W.fnOf x x (defArgs st) (defBody st) (defScope st) .none kV doc pm an cdv ct) := ⟨fun_mk l c k, PySem.W.mg_of X G a, (fun_mk l c k).binds b⟩
set_option maxHeartbeats 0 in
theorem all_mk {l : PySem.W.OpenLaw} {w : World} {K : PySem.W.Frag} {h : Heap} {mg : Str → Option Value} {fa : Addr} (X : K.In h) (G : h.Ns mainGlobals mg) (hfa : mg "law" = some (.ref fa))
    {f_inner : Addr} {oc_inner kV_inner dc_inner pm_inner cd_inner ct_inner : Value} {od_inner an_inner : Option Addr} {sl_inner : Array (Option Value)}
    (a_inner : PySem.W.nsIn K mainGlobals "inner" = some (some (.ref f_inner)))
    (l_inner : K.lookup f_inner = some ⟨oc_inner, od_inner, .func (PySem.W.fnOf "inner" "inner" (defArgs s_inner) (defBody s_inner) (defScope s_inner) .none kV_inner dc_inner pm_inner an_inner cd_inner ct_inner), sl_inner⟩)
    (c_inner : PySem.W.codeIn K cd_inner "inner" = true) (k_inner : PySem.W.keepIn K (.ref f_inner) = true)
    {f_known_as : Addr} {oc_known_as kV_known_as dc_known_as pm_known_as cd_known_as ct_known_as : Value} {od_known_as an_known_as : Option Addr} {sl_known_as : Array (Option Value)}
    (a_known_as : PySem.W.nsIn K mainGlobals "known_as" = some (some (.ref f_known_as)))
    (l_known_as : K.lookup f_known_as = some ⟨oc_known_as, od_known_as, .func (PySem.W.fnOf "known_as" "known_as" (defArgs s_known_as) (defBody s_known_as) (defScope s_known_as) .none kV_known_as dc_known_as pm_known_as an_known_as cd_known_as ct_known_as), sl_known_as⟩)
    (c_known_as : PySem.W.codeIn K cd_known_as "known_as" = true) (k_known_as : PySem.W.keepIn K (.ref f_known_as) = true)
    {f_kind_here : Addr} {oc_kind_here kV_kind_here dc_kind_here pm_kind_here cd_kind_here ct_kind_here : Value} {od_kind_here an_kind_here : Option Addr} {sl_kind_here : Array (Option Value)}
    (a_kind_here : PySem.W.nsIn K mainGlobals "kind_here" = some (some (.ref f_kind_here)))
    (l_kind_here : K.lookup f_kind_here = some ⟨oc_kind_here, od_kind_here, .func (PySem.W.fnOf "kind_here" "kind_here" (defArgs s_kind_here) (defBody s_kind_here) (defScope s_kind_here) .none kV_kind_here dc_kind_here pm_kind_here an_kind_here cd_kind_here ct_kind_here), sl_kind_here⟩)
    (c_kind_here : PySem.W.codeIn K cd_kind_here "kind_here" = true) (k_kind_here : PySem.W.keepIn K (.ref f_kind_here) = true)
    {f_kind_within : Addr} {oc_kind_within kV_kind_within dc_kind_within pm_kind_within cd_kind_within ct_kind_within : Value} {od_kind_within an_kind_within : Option Addr} {sl_kind_within : Array (Option Value)}
    (a_kind_within : PySem.W.nsIn K mainGlobals "kind_within" = some (some (.ref f_kind_within)))
    (l_kind_within : K.lookup f_kind_within = some ⟨oc_kind_within, od_kind_within, .func (PySem.W.fnOf "kind_within" "kind_within" (defArgs s_kind_within) (defBody s_kind_within) (defScope s_kind_within) .none kV_kind_within dc_kind_within pm_kind_within an_kind_within cd_kind_within ct_kind_within), sl_kind_within⟩)
    (c_kind_within : PySem.W.codeIn K cd_kind_within "kind_within" = true) (k_kind_within : PySem.W.keepIn K (.ref f_kind_within) = true)
    {f_kind_of : Addr} {oc_kind_of kV_kind_of dc_kind_of pm_kind_of cd_kind_of ct_kind_of : Value} {od_kind_of an_kind_of : Option Addr} {sl_kind_of : Array (Option Value)}
    (a_kind_of : PySem.W.nsIn K mainGlobals "kind_of" = some (some (.ref f_kind_of)))
    (l_kind_of : K.lookup f_kind_of = some ⟨oc_kind_of, od_kind_of, .func (PySem.W.fnOf "kind_of" "kind_of" (defArgs s_kind_of) (defBody s_kind_of) (defScope s_kind_of) .none kV_kind_of dc_kind_of pm_kind_of an_kind_of cd_kind_of ct_kind_of), sl_kind_of⟩)
    (c_kind_of : PySem.W.codeIn K cd_kind_of "kind_of" = true) (k_kind_of : PySem.W.keepIn K (.ref f_kind_of) = true)
    {f__law_pool : Addr} {oc__law_pool kV__law_pool dc__law_pool pm__law_pool cd__law_pool ct__law_pool : Value} {od__law_pool an__law_pool : Option Addr} {sl__law_pool : Array (Option Value)}
    (a__law_pool : PySem.W.nsIn K mainGlobals "_law_pool" = some (some (.ref f__law_pool)))
    (l__law_pool : K.lookup f__law_pool = some ⟨oc__law_pool, od__law_pool, .func (PySem.W.fnOf "_law_pool" "_law_pool" (defArgs s__law_pool) (defBody s__law_pool) (defScope s__law_pool) .none kV__law_pool dc__law_pool pm__law_pool an__law_pool cd__law_pool ct__law_pool), sl__law_pool⟩)
    (c__law_pool : PySem.W.codeIn K cd__law_pool "_law_pool" = true) (k__law_pool : PySem.W.keepIn K (.ref f__law_pool) = true)
    {f__law_take : Addr} {oc__law_take kV__law_take dc__law_take pm__law_take cd__law_take ct__law_take : Value} {od__law_take an__law_take : Option Addr} {sl__law_take : Array (Option Value)}
    (a__law_take : PySem.W.nsIn K mainGlobals "_law_take" = some (some (.ref f__law_take)))
    (l__law_take : K.lookup f__law_take = some ⟨oc__law_take, od__law_take, .func (PySem.W.fnOf "_law_take" "_law_take" (defArgs s__law_take) (defBody s__law_take) (defScope s__law_take) .none kV__law_take dc__law_take pm__law_take an__law_take cd__law_take ct__law_take), sl__law_take⟩)
    (c__law_take : PySem.W.codeIn K cd__law_take "_law_take" = true) (k__law_take : PySem.W.keepIn K (.ref f__law_take) = true)
    {f__law_kind : Addr} {oc__law_kind kV__law_kind dc__law_kind pm__law_kind cd__law_kind ct__law_kind : Value} {od__law_kind an__law_kind : Option Addr} {sl__law_kind : Array (Option Value)}
    (a__law_kind : PySem.W.nsIn K mainGlobals "_law_kind" = some (some (.ref f__law_kind)))
    (l__law_kind : K.lookup f__law_kind = some ⟨oc__law_kind, od__law_kind, .func (PySem.W.fnOf "_law_kind" "_law_kind" (defArgs s__law_kind) (defBody s__law_kind) (defScope s__law_kind) .none kV__law_kind dc__law_kind pm__law_kind an__law_kind cd__law_kind ct__law_kind), sl__law_kind⟩)
    (c__law_kind : PySem.W.codeIn K cd__law_kind "_law_kind" = true) (k__law_kind : PySem.W.keepIn K (.ref f__law_kind) = true)
    {f__law_seen : Addr} {oc__law_seen kV__law_seen dc__law_seen pm__law_seen cd__law_seen ct__law_seen : Value} {od__law_seen an__law_seen : Option Addr} {sl__law_seen : Array (Option Value)}
    (a__law_seen : PySem.W.nsIn K mainGlobals "_law_seen" = some (some (.ref f__law_seen)))
    (l__law_seen : K.lookup f__law_seen = some ⟨oc__law_seen, od__law_seen, .func (PySem.W.fnOf "_law_seen" "_law_seen" (defArgs s__law_seen) (defBody s__law_seen) (defScope s__law_seen) .none kV__law_seen dc__law_seen pm__law_seen an__law_seen cd__law_seen ct__law_seen), sl__law_seen⟩)
    (c__law_seen : PySem.W.codeIn K cd__law_seen "_law_seen" = true) (k__law_seen : PySem.W.keepIn K (.ref f__law_seen) = true)
    {f__law_uses : Addr} {oc__law_uses kV__law_uses dc__law_uses pm__law_uses cd__law_uses ct__law_uses : Value} {od__law_uses an__law_uses : Option Addr} {sl__law_uses : Array (Option Value)}
    (a__law_uses : PySem.W.nsIn K mainGlobals "_law_uses" = some (some (.ref f__law_uses)))
    (l__law_uses : K.lookup f__law_uses = some ⟨oc__law_uses, od__law_uses, .func (PySem.W.fnOf "_law_uses" "_law_uses" (defArgs s__law_uses) (defBody s__law_uses) (defScope s__law_uses) .none kV__law_uses dc__law_uses pm__law_uses an__law_uses cd__law_uses ct__law_uses), sl__law_uses⟩)
    (c__law_uses : PySem.W.codeIn K cd__law_uses "_law_uses" = true) (k__law_uses : PySem.W.keepIn K (.ref f__law_uses) = true)
    {f__law_used : Addr} {oc__law_used kV__law_used dc__law_used pm__law_used cd__law_used ct__law_used : Value} {od__law_used an__law_used : Option Addr} {sl__law_used : Array (Option Value)}
    (a__law_used : PySem.W.nsIn K mainGlobals "_law_used" = some (some (.ref f__law_used)))
    (l__law_used : K.lookup f__law_used = some ⟨oc__law_used, od__law_used, .func (PySem.W.fnOf "_law_used" "_law_used" (defArgs s__law_used) (defBody s__law_used) (defScope s__law_used) .none kV__law_used dc__law_used pm__law_used an__law_used cd__law_used ct__law_used), sl__law_used⟩)
    (c__law_used : PySem.W.codeIn K cd__law_used "_law_used" = true) (k__law_used : PySem.W.keepIn K (.ref f__law_used) = true)
    {f__law_made : Addr} {oc__law_made kV__law_made dc__law_made pm__law_made cd__law_made ct__law_made : Value} {od__law_made an__law_made : Option Addr} {sl__law_made : Array (Option Value)}
    (a__law_made : PySem.W.nsIn K mainGlobals "_law_made" = some (some (.ref f__law_made)))
    (l__law_made : K.lookup f__law_made = some ⟨oc__law_made, od__law_made, .func (PySem.W.fnOf "_law_made" "_law_made" (defArgs s__law_made) (defBody s__law_made) (defScope s__law_made) .none kV__law_made dc__law_made pm__law_made an__law_made cd__law_made ct__law_made), sl__law_made⟩)
    (c__law_made : PySem.W.codeIn K cd__law_made "_law_made" = true) (k__law_made : PySem.W.keepIn K (.ref f__law_made) = true)
    {f__law_program : Addr} {oc__law_program kV__law_program dc__law_program pm__law_program cd__law_program ct__law_program : Value} {od__law_program an__law_program : Option Addr} {sl__law_program : Array (Option Value)}
    (a__law_program : PySem.W.nsIn K mainGlobals "_law_program" = some (some (.ref f__law_program)))
    (l__law_program : K.lookup f__law_program = some ⟨oc__law_program, od__law_program, .func (PySem.W.fnOf "_law_program" "_law_program" (defArgs s__law_program) (defBody s__law_program) (defScope s__law_program) .none kV__law_program dc__law_program pm__law_program an__law_program cd__law_program ct__law_program), sl__law_program⟩)
    (c__law_program : PySem.W.codeIn K cd__law_program "_law_program" = true) (k__law_program : PySem.W.keepIn K (.ref f__law_program) = true)
    {f__law_row : Addr} {oc__law_row kV__law_row dc__law_row pm__law_row cd__law_row ct__law_row : Value} {od__law_row an__law_row : Option Addr} {sl__law_row : Array (Option Value)}
    (a__law_row : PySem.W.nsIn K mainGlobals "_law_row" = some (some (.ref f__law_row)))
    (l__law_row : K.lookup f__law_row = some ⟨oc__law_row, od__law_row, .func (PySem.W.fnOf "_law_row" "_law_row" (defArgs s__law_row) (defBody s__law_row) (defScope s__law_row) .none kV__law_row dc__law_row pm__law_row an__law_row cd__law_row ct__law_row), sl__law_row⟩)
    (c__law_row : PySem.W.codeIn K cd__law_row "_law_row" = true) (k__law_row : PySem.W.keepIn K (.ref f__law_row) = true)
    {f__law_many : Addr} {oc__law_many kV__law_many dc__law_many pm__law_many cd__law_many ct__law_many : Value} {od__law_many an__law_many : Option Addr} {sl__law_many : Array (Option Value)}
    (a__law_many : PySem.W.nsIn K mainGlobals "_law_many" = some (some (.ref f__law_many)))
    (l__law_many : K.lookup f__law_many = some ⟨oc__law_many, od__law_many, .func (PySem.W.fnOf "_law_many" "_law_many" (defArgs s__law_many) (defBody s__law_many) (defScope s__law_many) .none kV__law_many dc__law_many pm__law_many an__law_many cd__law_many ct__law_many), sl__law_many⟩)
    (c__law_many : PySem.W.codeIn K cd__law_many "_law_many" = true) (k__law_many : PySem.W.keepIn K (.ref f__law_many) = true)
    {f__law_words : Addr} {oc__law_words kV__law_words dc__law_words pm__law_words cd__law_words ct__law_words : Value} {od__law_words an__law_words : Option Addr} {sl__law_words : Array (Option Value)}
    (a__law_words : PySem.W.nsIn K mainGlobals "_law_words" = some (some (.ref f__law_words)))
    (l__law_words : K.lookup f__law_words = some ⟨oc__law_words, od__law_words, .func (PySem.W.fnOf "_law_words" "_law_words" (defArgs s__law_words) (defBody s__law_words) (defScope s__law_words) .none kV__law_words dc__law_words pm__law_words an__law_words cd__law_words ct__law_words), sl__law_words⟩)
    (c__law_words : PySem.W.codeIn K cd__law_words "_law_words" = true) (k__law_words : PySem.W.keepIn K (.ref f__law_words) = true)
    {f__law_drawn : Addr} {oc__law_drawn kV__law_drawn dc__law_drawn pm__law_drawn cd__law_drawn ct__law_drawn : Value} {od__law_drawn an__law_drawn : Option Addr} {sl__law_drawn : Array (Option Value)}
    (a__law_drawn : PySem.W.nsIn K mainGlobals "_law_drawn" = some (some (.ref f__law_drawn)))
    (l__law_drawn : K.lookup f__law_drawn = some ⟨oc__law_drawn, od__law_drawn, .func (PySem.W.fnOf "_law_drawn" "_law_drawn" (defArgs s__law_drawn) (defBody s__law_drawn) (defScope s__law_drawn) .none kV__law_drawn dc__law_drawn pm__law_drawn an__law_drawn cd__law_drawn ct__law_drawn), sl__law_drawn⟩)
    (c__law_drawn : PySem.W.codeIn K cd__law_drawn "_law_drawn" = true) (k__law_drawn : PySem.W.keepIn K (.ref f__law_drawn) = true)
    {f__law_inner : Addr} {oc__law_inner kV__law_inner dc__law_inner pm__law_inner cd__law_inner ct__law_inner : Value} {od__law_inner an__law_inner : Option Addr} {sl__law_inner : Array (Option Value)}
    (a__law_inner : PySem.W.nsIn K mainGlobals "_law_inner" = some (some (.ref f__law_inner)))
    (l__law_inner : K.lookup f__law_inner = some ⟨oc__law_inner, od__law_inner, .func (PySem.W.fnOf "_law_inner" "_law_inner" (defArgs s__law_inner) (defBody s__law_inner) (defScope s__law_inner) .none kV__law_inner dc__law_inner pm__law_inner an__law_inner cd__law_inner ct__law_inner), sl__law_inner⟩)
    (c__law_inner : PySem.W.codeIn K cd__law_inner "_law_inner" = true) (k__law_inner : PySem.W.keepIn K (.ref f__law_inner) = true)
    {f__law_kind_by : Addr} {oc__law_kind_by kV__law_kind_by dc__law_kind_by pm__law_kind_by cd__law_kind_by ct__law_kind_by : Value} {od__law_kind_by an__law_kind_by : Option Addr} {sl__law_kind_by : Array (Option Value)}
    (a__law_kind_by : PySem.W.nsIn K mainGlobals "_law_kind_by" = some (some (.ref f__law_kind_by)))
    (l__law_kind_by : K.lookup f__law_kind_by = some ⟨oc__law_kind_by, od__law_kind_by, .func (PySem.W.fnOf "_law_kind_by" "_law_kind_by" (defArgs s__law_kind_by) (defBody s__law_kind_by) (defScope s__law_kind_by) .none kV__law_kind_by dc__law_kind_by pm__law_kind_by an__law_kind_by cd__law_kind_by ct__law_kind_by), sl__law_kind_by⟩)
    (c__law_kind_by : PySem.W.codeIn K cd__law_kind_by "_law_kind_by" = true) (k__law_kind_by : PySem.W.keepIn K (.ref f__law_kind_by) = true)
    {f__law_parts : Addr} {oc__law_parts kV__law_parts dc__law_parts pm__law_parts cd__law_parts ct__law_parts : Value} {od__law_parts an__law_parts : Option Addr} {sl__law_parts : Array (Option Value)}
    (a__law_parts : PySem.W.nsIn K mainGlobals "_law_parts" = some (some (.ref f__law_parts)))
    (l__law_parts : K.lookup f__law_parts = some ⟨oc__law_parts, od__law_parts, .func (PySem.W.fnOf "_law_parts" "_law_parts" (defArgs s__law_parts) (defBody s__law_parts) (defScope s__law_parts) .none kV__law_parts dc__law_parts pm__law_parts an__law_parts cd__law_parts ct__law_parts), sl__law_parts⟩)
    (c__law_parts : PySem.W.codeIn K cd__law_parts "_law_parts" = true) (k__law_parts : PySem.W.keepIn K (.ref f__law_parts) = true)
    {f__law_with : Addr} {oc__law_with kV__law_with dc__law_with pm__law_with cd__law_with ct__law_with : Value} {od__law_with an__law_with : Option Addr} {sl__law_with : Array (Option Value)}
    (a__law_with : PySem.W.nsIn K mainGlobals "_law_with" = some (some (.ref f__law_with)))
    (l__law_with : K.lookup f__law_with = some ⟨oc__law_with, od__law_with, .func (PySem.W.fnOf "_law_with" "_law_with" (defArgs s__law_with) (defBody s__law_with) (defScope s__law_with) .none kV__law_with dc__law_with pm__law_with an__law_with cd__law_with ct__law_with), sl__law_with⟩)
    (c__law_with : PySem.W.codeIn K cd__law_with "_law_with" = true) (k__law_with : PySem.W.keepIn K (.ref f__law_with) = true)
    {f__law_told : Addr} {oc__law_told kV__law_told dc__law_told pm__law_told cd__law_told ct__law_told : Value} {od__law_told an__law_told : Option Addr} {sl__law_told : Array (Option Value)}
    (a__law_told : PySem.W.nsIn K mainGlobals "_law_told" = some (some (.ref f__law_told)))
    (l__law_told : K.lookup f__law_told = some ⟨oc__law_told, od__law_told, .func (PySem.W.fnOf "_law_told" "_law_told" (defArgs s__law_told) (defBody s__law_told) (defScope s__law_told) .none kV__law_told dc__law_told pm__law_told an__law_told cd__law_told ct__law_told), sl__law_told⟩)
    (c__law_told : PySem.W.codeIn K cd__law_told "_law_told" = true) (k__law_told : PySem.W.keepIn K (.ref f__law_told) = true)
    {f_law : Addr} {oc_law kV_law dc_law pm_law cd_law ct_law : Value} {od_law an_law : Option Addr} {sl_law : Array (Option Value)}
    (a_law : PySem.W.nsIn K mainGlobals "law" = some (some (.ref f_law)))
    (l_law : K.lookup f_law = some ⟨oc_law, od_law, .func (PySem.W.fnOf "law" "law" (defArgs s_law) (defBody s_law) (defScope s_law) .none kV_law dc_law pm_law an_law cd_law ct_law), sl_law⟩)
    (c_law : PySem.W.codeIn K cd_law "law" = true) (k_law : PySem.W.keepIn K (.ref f_law) = true)
    (z_list : PySem.W.nsIn K mainGlobals "list" = some none)
    (z_reversed : PySem.W.nsIn K mainGlobals "reversed" = some none)
    (z_int : PySem.W.nsIn K mainGlobals "int" = some none)
    (z_enumerate : PySem.W.nsIn K mainGlobals "enumerate" = some none)
    (z_len : PySem.W.nsIn K mainGlobals "len" = some none)
    (z_tuple : PySem.W.nsIn K mainGlobals "tuple" = some none)
    (z_isinstance : PySem.W.nsIn K mainGlobals "isinstance" = some none)
    (z_ValueError : PySem.W.nsIn K mainGlobals "ValueError" = some none)
    (z_range : PySem.W.nsIn K mainGlobals "range" = some none)
    (z_min : PySem.W.nsIn K mainGlobals "min" = some none)
    (z_max : PySem.W.nsIn K mainGlobals "max" = some none)
    {p_ONE : Addr} {dd_ONE : Option Addr} {n_ONE : Nat} {sl_ONE : Array (Option Value)} {t_ONE : Tok} (e_ONE : PySem.W.nsIn K mainGlobals "ONE" = some (some (.ref p_ONE))) (q_ONE : K.lookup p_ONE = some ⟨.type "tuple", dd_ONE, .seq #[.str "one" t_ONE] n_ONE, sl_ONE⟩)
    {C_KindError : Addr} (ka_KindError : PySem.W.nsIn K mainGlobals "KindError" = some (some (.ref C_KindError))) (kb_KindError : PySem.W.subIn K (.ref C_KindError) (.type "BaseException") = some true) (kt_KindError : PySem.W.typeIn K (.ref C_KindError) = some (.type "type"))
    {C_NoFit : Addr} (ka_NoFit : PySem.W.nsIn K mainGlobals "NoFit" = some (some (.ref C_NoFit))) (kb_NoFit : PySem.W.subIn K (.ref C_NoFit) (.type "BaseException") = some true) (kt_NoFit : PySem.W.typeIn K (.ref C_NoFit) = some (.type "type"))
    {C_NoKind : Addr} (ka_NoKind : PySem.W.nsIn K mainGlobals "NoKind" = some (some (.ref C_NoKind))) (kb_NoKind : PySem.W.subIn K (.ref C_NoKind) (.type "BaseException") = some true) (kt_NoKind : PySem.W.typeIn K (.ref C_NoKind) = some (.type "type"))
    {C_NoLong : Addr} (ka_NoLong : PySem.W.nsIn K mainGlobals "NoLong" = some (some (.ref C_NoLong))) (kb_NoLong : PySem.W.subIn K (.ref C_NoLong) (.type "BaseException") = some true) (kt_NoLong : PySem.W.typeIn K (.ref C_NoLong) = some (.type "type"))
    {C_NoMaking : Addr} (ka_NoMaking : PySem.W.nsIn K mainGlobals "NoMaking" = some (some (.ref C_NoMaking))) (kb_NoMaking : PySem.W.subIn K (.ref C_NoMaking) (.type "BaseException") = some true) (kt_NoMaking : PySem.W.typeIn K (.ref C_NoMaking) = some (.type "type"))
    {C_NoText : Addr} (ka_NoText : PySem.W.nsIn K mainGlobals "NoText" = some (some (.ref C_NoText))) (kb_NoText : PySem.W.subIn K (.ref C_NoText) (.type "BaseException") = some true) (kt_NoText : PySem.W.typeIn K (.ref C_NoText) = some (.type "type"))
    {C_TooLong : Addr} (ka_TooLong : PySem.W.nsIn K mainGlobals "TooLong" = some (some (.ref C_TooLong))) (kb_TooLong : PySem.W.subIn K (.ref C_TooLong) (.type "BaseException") = some true) (kt_TooLong : PySem.W.typeIn K (.ref C_TooLong) = some (.type "type"))
    {C_TooMany : Addr} (ka_TooMany : PySem.W.nsIn K mainGlobals "TooMany" = some (some (.ref C_TooMany))) (kb_TooMany : PySem.W.subIn K (.ref C_TooMany) (.type "BaseException") = some true) (kt_TooMany : PySem.W.typeIn K (.ref C_TooMany) = some (.type "type"))
    (kd_KindError : PySem.W.hasDictIn K C_KindError = true) (kf_KindError : PySem.W.subIn K (.ref C_KindError) (.ref C_KindError) = some true)
    (kd_NoFit : PySem.W.hasDictIn K C_NoFit = true) (kf_NoFit : PySem.W.subIn K (.ref C_NoFit) (.ref C_NoFit) = some true)
    (kd_NoKind : PySem.W.hasDictIn K C_NoKind = true) (kf_NoKind : PySem.W.subIn K (.ref C_NoKind) (.ref C_NoKind) = some true)
    (kd_NoLong : PySem.W.hasDictIn K C_NoLong = true) (kf_NoLong : PySem.W.subIn K (.ref C_NoLong) (.ref C_NoLong) = some true)
    (kd_NoMaking : PySem.W.hasDictIn K C_NoMaking = true) (kf_NoMaking : PySem.W.subIn K (.ref C_NoMaking) (.ref C_NoMaking) = some true)
    (kd_NoText : PySem.W.hasDictIn K C_NoText = true) (kf_NoText : PySem.W.subIn K (.ref C_NoText) (.ref C_NoText) = some true)
    (kd_TooLong : PySem.W.hasDictIn K C_TooLong = true) (kf_TooLong : PySem.W.subIn K (.ref C_TooLong) (.ref C_TooLong) = some true)
    (kd_TooMany : PySem.W.hasDictIn K C_TooMany = true) (kf_TooMany : PySem.W.subIn K (.ref C_TooMany) (.ref C_TooMany) = some true)
    (bs_KindError : PySem.W.specialIn K (.ref C_KindError) "__getattribute__" = some (some (.builtin "type.__getattribute__"))) (br_KindError : PySem.W.readsIn K C_KindError (.type "type") = true) (bf_KindError : PySem.W.findCls K (.ref C_KindError) (.type "type") "__init__" = some (.val (.builtin "ValueError.__init__")))
    {nmz_NoFit qz_NoFit : Str} {Nz_NoFit : Addr} {bsz_NoFit bmz_NoFit sbz_NoFit : List Value} {snz_NoFit : List Str} {abz_NoFit : Bool} {colz_NoFit : Option Bool} {ddz_NoFit : Option Addr} {k0z_NoFit k1z_NoFit k2z_NoFit k3z_NoFit k5z_NoFit : Option Value}
    (ox_NoFit : K.lookup C_NoFit = some (excClassObj nmz_NoFit qz_NoFit C_NoFit Nz_NoFit bsz_NoFit bmz_NoFit true snz_NoFit sbz_NoFit abz_NoFit colz_NoFit ddz_NoFit k0z_NoFit k1z_NoFit k2z_NoFit k3z_NoFit k5z_NoFit "ValueError.__new__")) (hhz_NoFit : PySem.HandSPX.refsVE bmz_NoFit = true)
    (os_NoFit : PySem.W.findIn K (.ref C_NoFit) "__setattr__" = some (some (.builtin "object.__setattr__"))) (okz_NoFit : PySem.W.keepIn K (.ref C_NoFit) = true) (onz_NoFit : PySem.W.findIn K (.ref C_NoFit) "place" = some none)
    {f_NoFit___init__ : Addr} {oc_NoFit___init__ kV_NoFit___init__ dc_NoFit___init__ pm_NoFit___init__ cd_NoFit___init__ ct_NoFit___init__ : Value} {od_NoFit___init__ an_NoFit___init__ : Option Addr} {sl_NoFit___init__ : Array (Option Value)}
    (a_NoFit___init__ : PySem.W.findIn K (.ref C_NoFit) "__init__" = some (some (.ref f_NoFit___init__))) (ti_NoFit___init__ : PySem.W.typeIn K (.ref f_NoFit___init__) = some (.type "function"))
    (l_NoFit___init__ : K.lookup f_NoFit___init__ = some ⟨oc_NoFit___init__, od_NoFit___init__, .func (PySem.W.fnOf "__init__" "NoFit.__init__" (defArgs s_NoFit___init__) (defBody s_NoFit___init__) (defScope s_NoFit___init__) .none kV_NoFit___init__ dc_NoFit___init__ pm_NoFit___init__ an_NoFit___init__ cd_NoFit___init__ ct_NoFit___init__), sl_NoFit___init__⟩)
    (c_NoFit___init__ : PySem.W.codeIn K cd_NoFit___init__ "NoFit.__init__" = true) (k_NoFit___init__ : PySem.W.keepIn K (.ref f_NoFit___init__) = true)
    (ega_NoFit : PySem.W.findIn K (.ref C_NoFit) "__getattribute__" = some (some (.builtin "BaseException.__getattribute__")))
    (egt_NoFit : PySem.W.findIn K (.ref C_NoFit) "__getattr__" = some none)
    (edc_NoFit : PySem.W.hasDictIn K C_NoFit = true)
    (ecc_NoFit : PySem.W.findIn K (.ref C_NoFit) "__class__" = some (some (.builtin "object.__class__")))
    (emo_NoFit : PySem.W.mroIn K C_NoFit (.type "object") = some true)
    (spc : PySem.W.specialIn K (.builtin "object.__class__") "__get__" = some (some (.builtin "getset_descriptor.__get__"))) (tkc : PySem.W.takesIn K (.builtin "object.__class__") = some true)
    (sb_NoFit_KindError : PySem.W.subIn K (.ref C_NoFit) (.ref C_KindError) = some true)
    (sb_NoFit_ValueError : PySem.W.subIn K (.ref C_NoFit) (.type "ValueError") = some true)
    (sb_NoFit_NoKind : PySem.W.subIn K (.ref C_NoFit) (.ref C_NoKind) = some false)
    (sb_NoFit_NoLong : PySem.W.subIn K (.ref C_NoFit) (.ref C_NoLong) = some false)
    (sb_NoFit_NoMaking : PySem.W.subIn K (.ref C_NoFit) (.ref C_NoMaking) = some false)
    (sb_NoFit_NoText : PySem.W.subIn K (.ref C_NoFit) (.ref C_NoText) = some false)
    (sb_NoFit_TooLong : PySem.W.subIn K (.ref C_NoFit) (.ref C_TooLong) = some false)
    (sb_NoFit_TooMany : PySem.W.subIn K (.ref C_NoFit) (.ref C_TooMany) = some false) :
    ∃ fd : FuncData, (∀ (s : Shared) (v : Value), BindsTo s fd ⟨[v], []⟩ [("_law_script", v)]) ∧ ∀ base : Heap, K.In base → base.Ns mainGlobals mg → FnOk l.prog w K mg base CX0 215 fa fd ["_law_script"] (liftSp K (lawSp 63)) := by
  have e := hfa.symm.trans (PySem.W.mg_of X G a_law)
  cases e
  have N_inner' := fn_mk (ps := P_inner) X G a_inner l_inner c_inner k_inner fun _ _ _ _ _ _ us hl => match us, hl with | [_], _ => rfl
  have N_known_as' := fn_mk (ps := P_known_as) X G a_known_as l_known_as c_known_as k_known_as fun _ _ _ _ _ _ us hl => match us, hl with | [_, _], _ => rfl
  have N_kind_here' := fn_mk (ps := P_kind_here) X G a_kind_here l_kind_here c_kind_here k_kind_here fun _ _ _ _ _ _ us hl => match us, hl with | [_, _, _], _ => rfl
  have N_kind_within' := fn_mk (ps := P_kind_within) X G a_kind_within l_kind_within c_kind_within k_kind_within fun _ _ _ _ _ _ us hl => match us, hl with | [_, _, _], _ => rfl
  have N_kind_of' := fn_mk (ps := P_kind_of) X G a_kind_of l_kind_of c_kind_of k_kind_of fun _ _ _ _ _ _ us hl => match us, hl with | [_, _], _ => rfl
  have N__law_pool' := fn_mk (ps := P__law_pool) X G a__law_pool l__law_pool c__law_pool k__law_pool fun _ _ _ _ _ _ us hl => match us, hl with | [_, _], _ => rfl
  have N__law_take' := fn_mk (ps := P__law_take) X G a__law_take l__law_take c__law_take k__law_take fun _ _ _ _ _ _ us hl => match us, hl with | [_, _], _ => rfl
  have N__law_kind' := fn_mk (ps := P__law_kind) X G a__law_kind l__law_kind c__law_kind k__law_kind fun _ _ _ _ _ _ us hl => match us, hl with | [_, _, _], _ => rfl
  have N__law_seen' := fn_mk (ps := P__law_seen) X G a__law_seen l__law_seen c__law_seen k__law_seen fun _ _ _ _ _ _ us hl => match us, hl with | [_], _ => rfl
  have N__law_uses' := fn_mk (ps := P__law_uses) X G a__law_uses l__law_uses c__law_uses k__law_uses fun _ _ _ _ _ _ us hl => match us, hl with | [_, _, _], _ => rfl
  have N__law_used' := fn_mk (ps := P__law_used) X G a__law_used l__law_used c__law_used k__law_used fun _ _ _ _ _ _ us hl => match us, hl with | [_, _, _, _], _ => rfl
  have N__law_made' := fn_mk (ps := P__law_made) X G a__law_made l__law_made c__law_made k__law_made fun _ _ _ _ _ _ us hl => match us, hl with | [_, _, _, _], _ => rfl
  have N__law_program' := fn_mk (ps := P__law_program) X G a__law_program l__law_program c__law_program k__law_program fun _ _ _ _ _ _ us hl => match us, hl with | [_, _, _, _], _ => rfl
  have N__law_row' := fn_mk (ps := P__law_row) X G a__law_row l__law_row c__law_row k__law_row fun _ _ _ _ _ _ us hl => match us, hl with | [_], _ => rfl
  have N__law_many' := fn_mk (ps := P__law_many) X G a__law_many l__law_many c__law_many k__law_many fun _ _ _ _ _ _ us hl => match us, hl with | [_], _ => rfl
  have N__law_words' := fn_mk (ps := P__law_words) X G a__law_words l__law_words c__law_words k__law_words fun _ _ _ _ _ _ us hl => match us, hl with | [], _ => rfl
  have N__law_drawn' := fn_mk (ps := P__law_drawn) X G a__law_drawn l__law_drawn c__law_drawn k__law_drawn fun _ _ _ _ _ _ us hl => match us, hl with | [_, _, _], _ => rfl
  have N__law_inner' := fn_mk (ps := P__law_inner) X G a__law_inner l__law_inner c__law_inner k__law_inner fun _ _ _ _ _ _ us hl => match us, hl with | [_], _ => rfl
  have N__law_kind_by' := fn_mk (ps := P__law_kind_by) X G a__law_kind_by l__law_kind_by c__law_kind_by k__law_kind_by fun _ _ _ _ _ _ us hl => match us, hl with | [_, _, _], _ => rfl
  have N__law_parts' := fn_mk (ps := P__law_parts) X G a__law_parts l__law_parts c__law_parts k__law_parts fun _ _ _ _ _ _ us hl => match us, hl with | [_, _], _ => rfl
  have N__law_with' := fn_mk (ps := P__law_with) X G a__law_with l__law_with c__law_with k__law_with fun _ _ _ _ _ _ us hl => match us, hl with | [_, _, _], _ => rfl
  have N__law_told' := fn_mk (ps := P__law_told) X G a__law_told l__law_told c__law_told k__law_told fun _ _ _ _ _ _ us hl => match us, hl with | [_, _], _ => rfl
  have N_law' := fn_mk (ps := P_law) X G a_law l_law c_law k_law fun _ _ _ _ _ _ us hl => match us, hl with | [_], _ => rfl
  have m_list : mg "list" = none := PySem.W.mg_none_of X G z_list
  have m_reversed : mg "reversed" = none := PySem.W.mg_none_of X G z_reversed
  have m_int : mg "int" = none := PySem.W.mg_none_of X G z_int
  have m_enumerate : mg "enumerate" = none := PySem.W.mg_none_of X G z_enumerate
  have m_len : mg "len" = none := PySem.W.mg_none_of X G z_len
  have m_tuple : mg "tuple" = none := PySem.W.mg_none_of X G z_tuple
  have m_isinstance : mg "isinstance" = none := PySem.W.mg_none_of X G z_isinstance
  have m_ValueError : mg "ValueError" = none := PySem.W.mg_none_of X G z_ValueError
  have m_range : mg "range" = none := PySem.W.mg_none_of X G z_range
  have m_min : mg "min" = none := PySem.W.mg_none_of X G z_min
  have m_max : mg "max" = none := PySem.W.mg_none_of X G z_max
  have c_ONE : Cst K mg "ONE" (.tup [.str "one"]) := cst_strs (ys := ["one"]) (PySem.W.mg_of X G e_ONE) q_ONE rfl rfl (.cons ⟨_, rfl⟩ .nil) (by decide)
  have k_KindError : Cl K mg "KindError" C_KindError := ⟨PySem.W.mg_of X G ka_KindError, kb_KindError, kd_KindError, kt_KindError, kf_KindError⟩
  have k_NoFit : Cl K mg "NoFit" C_NoFit := ⟨PySem.W.mg_of X G ka_NoFit, kb_NoFit, kd_NoFit, kt_NoFit, kf_NoFit⟩
  have k_NoKind : Cl K mg "NoKind" C_NoKind := ⟨PySem.W.mg_of X G ka_NoKind, kb_NoKind, kd_NoKind, kt_NoKind, kf_NoKind⟩
  have k_NoLong : Cl K mg "NoLong" C_NoLong := ⟨PySem.W.mg_of X G ka_NoLong, kb_NoLong, kd_NoLong, kt_NoLong, kf_NoLong⟩
  have k_NoMaking : Cl K mg "NoMaking" C_NoMaking := ⟨PySem.W.mg_of X G ka_NoMaking, kb_NoMaking, kd_NoMaking, kt_NoMaking, kf_NoMaking⟩
  have k_NoText : Cl K mg "NoText" C_NoText := ⟨PySem.W.mg_of X G ka_NoText, kb_NoText, kd_NoText, kt_NoText, kf_NoText⟩
  have k_TooLong : Cl K mg "TooLong" C_TooLong := ⟨PySem.W.mg_of X G ka_TooLong, kb_TooLong, kd_TooLong, kt_TooLong, kf_TooLong⟩
  have k_TooMany : Cl K mg "TooMany" C_TooMany := ⟨PySem.W.mg_of X G ka_TooMany, kb_TooMany, kd_TooMany, kt_TooMany, kf_TooMany⟩
  have bx_KindError : BaseX K mg "KindError" C_KindError := ⟨PySem.W.mg_of X G ka_KindError, bs_KindError, kt_KindError, br_KindError, bf_KindError⟩
  have xi_NoFit : ExI K mg "NoFit" "place" C_NoFit f_NoFit___init__ _ "NoFit.__init__" s_NoFit___init__ P_NoFit___init__ := ⟨⟨⟨_, _, _, _, _, _, _, _, _, _, _, _, _, _, _, ox_NoFit, hhz_NoFit⟩, os_NoFit, kb_NoFit, kt_NoFit, okz_NoFit⟩, PySem.W.mg_of X G ka_NoFit, a_NoFit___init__, ti_NoFit___init__, onz_NoFit, fun_mk l_NoFit___init__ c_NoFit___init__ k_NoFit___init__, (fun_mk l_NoFit___init__ c_NoFit___init__ k_NoFit___init__).binds (ps := P_NoFit___init__) fun _ _ _ _ _ _ us hl => match us, hl with | [_, _], _ => rfl⟩
  have ec_NoFit : ExcC K C_NoFit := ⟨ega_NoFit, egt_NoFit, kb_NoFit, edc_NoFit, ecc_NoFit, spc, tkc, emo_NoFit⟩
  let T : Tx K mg := { a_inner := _, fd_inner := _, n_inner := N_inner', a_known_as := _, fd_known_as := _, n_known_as := N_known_as', a_kind_here := _, fd_kind_here := _, n_kind_here := N_kind_here', a_kind_within := _, fd_kind_within := _, n_kind_within := N_kind_within', a_kind_of := _, fd_kind_of := _, n_kind_of := N_kind_of', a__law_pool := _, fd__law_pool := _, n__law_pool := N__law_pool', a__law_take := _, fd__law_take := _, n__law_take := N__law_take', a__law_kind := _, fd__law_kind := _, n__law_kind := N__law_kind', a__law_seen := _, fd__law_seen := _, n__law_seen := N__law_seen', a__law_uses := _, fd__law_uses := _, n__law_uses := N__law_uses', a__law_used := _, fd__law_used := _, n__law_used := N__law_used', a__law_made := _, fd__law_made := _, n__law_made := N__law_made', a__law_program := _, fd__law_program := _, n__law_program := N__law_program', a__law_row := _, fd__law_row := _, n__law_row := N__law_row', a__law_many := _, fd__law_many := _, n__law_many := N__law_many', a__law_words := _, fd__law_words := _, n__law_words := N__law_words', a__law_drawn := _, fd__law_drawn := _, n__law_drawn := N__law_drawn', a__law_inner := _, fd__law_inner := _, n__law_inner := N__law_inner', a__law_kind_by := _, fd__law_kind_by := _, n__law_kind_by := N__law_kind_by', a__law_parts := _, fd__law_parts := _, n__law_parts := N__law_parts', a__law_with := _, fd__law_with := _, n__law_with := N__law_with', a__law_told := _, fd__law_told := _, n__law_told := N__law_told', a_law := _, fd_law := _, n_law := N_law', m_list := m_list, m_reversed := m_reversed, m_int := m_int, m_enumerate := m_enumerate, m_len := m_len, m_tuple := m_tuple, m_isinstance := m_isinstance, m_ValueError := m_ValueError, m_range := m_range, m_min := m_min, m_max := m_max, c_ONE := c_ONE, bx_KindError := bx_KindError, fI_NoFit := _, fdI_NoFit := _, xi_NoFit := xi_NoFit, C_KindError := C_KindError, C_NoFit := C_NoFit, C_NoKind := C_NoKind, C_NoLong := C_NoLong, C_NoMaking := C_NoMaking, C_NoText := C_NoText, C_TooLong := C_TooLong, C_TooMany := C_TooMany, k_KindError := k_KindError, k_NoFit := k_NoFit, k_NoKind := k_NoKind, k_NoLong := k_NoLong, k_NoMaking := k_NoMaking, k_NoText := k_NoText, k_TooLong := k_TooLong, k_TooMany := k_TooMany, ec_NoFit := ec_NoFit, sb_NoFit_KindError := sb_NoFit_KindError, sb_NoFit_ValueError := sb_NoFit_ValueError, sb_NoFit_NoKind := sb_NoFit_NoKind, sb_NoFit_NoLong := sb_NoFit_NoLong, sb_NoFit_NoMaking := sb_NoFit_NoMaking, sb_NoFit_NoText := sb_NoFit_NoText, sb_NoFit_TooLong := sb_NoFit_TooLong, sb_NoFit_TooMany := sb_NoFit_TooMany }
  exact ⟨_, fun s v => .of_eq rfl, fun base _ _ => ok_law T⟩
end Kf
open PySem PySem.W PyProof.Rows
set_option maxHeartbeats 0 in
theorem PySem.Challenge.cw_kindfill_k08_kinds_of_programs_holds : PySem.Challenge.rw_kindfill_k08_kinds_of_programs.Holds := by
  w_on; o_law; k_head; (case hw => w_witness2)
  k_fill
  refine L2.walk_of (l := PySem.Challenge.rw_kindfill_k08_kinds_of_programs) (n := 63) (k := 215) (x := "_law_script") (CX := fun _ => L2.CX0) (sp := fun w => Kf.liftSp _ (Kf.lawSp 63)) rfl (by decide) rfl ⟨rfl, by decide, by decide⟩ (fun w h Y => PySem.W.kIn_of Y) ?F (fun _ _ a ns hl _ hS => Kf.law_start hl hS) (fun _ _ _ _ _ h => h)
  case F =>
    intro w mg fa h KX G hmg
    refine' Kf.all_mk KX G hmg ?a_inner ?l_inner ?c_inner ?k_inner ?a_known_as ?l_known_as ?c_known_as ?k_known_as ?a_kind_here ?l_kind_here ?c_kind_here ?k_kind_here ?a_kind_within ?l_kind_within ?c_kind_within ?k_kind_within ?a_kind_of ?l_kind_of ?c_kind_of ?k_kind_of ?a__law_pool ?l__law_pool ?c__law_pool ?k__law_pool ?a__law_take ?l__law_take ?c__law_take ?k__law_take ?a__law_kind ?l__law_kind ?c__law_kind ?k__law_kind ?a__law_seen ?l__law_seen ?c__law_seen ?k__law_seen ?a__law_uses ?l__law_uses ?c__law_uses ?k__law_uses ?a__law_used ?l__law_used ?c__law_used ?k__law_used ?a__law_made ?l__law_made ?c__law_made ?k__law_made ?a__law_program ?l__law_program ?c__law_program ?k__law_program ?a__law_row ?l__law_row ?c__law_row ?k__law_row ?a__law_many ?l__law_many ?c__law_many ?k__law_many ?a__law_words ?l__law_words ?c__law_words ?k__law_words ?a__law_drawn ?l__law_drawn ?c__law_drawn ?k__law_drawn ?a__law_inner ?l__law_inner ?c__law_inner ?k__law_inner ?a__law_kind_by ?l__law_kind_by ?c__law_kind_by ?k__law_kind_by ?a__law_parts ?l__law_parts ?c__law_parts ?k__law_parts ?a__law_with ?l__law_with ?c__law_with ?k__law_with ?a__law_told ?l__law_told ?c__law_told ?k__law_told ?a_law ?l_law ?c_law ?k_law ?z_list ?z_reversed ?z_int ?z_enumerate ?z_len ?z_tuple ?z_isinstance ?z_ValueError ?z_range ?z_min ?z_max ?e_ONE ?q_ONE ?ka_KindError ?kb_KindError ?kt_KindError ?ka_NoFit ?kb_NoFit ?kt_NoFit ?ka_NoKind ?kb_NoKind ?kt_NoKind ?ka_NoLong ?kb_NoLong ?kt_NoLong ?ka_NoMaking ?kb_NoMaking ?kt_NoMaking ?ka_NoText ?kb_NoText ?kt_NoText ?ka_TooLong ?kb_TooLong ?kt_TooLong ?ka_TooMany ?kb_TooMany ?kt_TooMany ?kd_KindError ?kf_KindError ?kd_NoFit ?kf_NoFit ?kd_NoKind ?kf_NoKind ?kd_NoLong ?kf_NoLong ?kd_NoMaking ?kf_NoMaking ?kd_NoText ?kf_NoText ?kd_TooLong ?kf_TooLong ?kd_TooMany ?kf_TooMany ?bs_KindError ?br_KindError ?bf_KindError ?ox_NoFit ?hhz_NoFit ?os_NoFit ?okz_NoFit ?onz_NoFit ?a_NoFit___init__ ?ti_NoFit___init__ ?l_NoFit___init__ ?c_NoFit___init__ ?k_NoFit___init__ ?ega_NoFit ?egt_NoFit ?edc_NoFit ?ecc_NoFit ?emo_NoFit ?spc ?tkc ?sb_NoFit_KindError ?sb_NoFit_ValueError ?sb_NoFit_NoKind ?sb_NoFit_NoLong ?sb_NoFit_NoMaking ?sb_NoFit_NoText ?sb_NoFit_TooLong ?sb_NoFit_TooMany
    (case a_inner => k_is)
    (case l_inner => k_is)
    (case c_inner => k_is)
    (case k_inner => k_is)
    (case a_known_as => k_is)
    (case l_known_as => k_is)
    (case c_known_as => k_is)
    (case k_known_as => k_is)
    (case a_kind_here => k_is)
    (case l_kind_here => k_is)
    (case c_kind_here => k_is)
    (case k_kind_here => k_is)
    (case a_kind_within => k_is)
    (case l_kind_within => k_is)
    (case c_kind_within => k_is)
    (case k_kind_within => k_is)
    (case a_kind_of => k_is)
    (case l_kind_of => k_is)
    (case c_kind_of => k_is)
    (case k_kind_of => k_is)
    (case a__law_pool => k_is)
    (case l__law_pool => k_is)
    (case c__law_pool => k_is)
    (case k__law_pool => k_is)
    (case a__law_take => k_is)
    (case l__law_take => k_is)
    (case c__law_take => k_is)
    (case k__law_take => k_is)
    (case a__law_kind => k_is)
    (case l__law_kind => k_is)
    (case c__law_kind => k_is)
    (case k__law_kind => k_is)
    (case a__law_seen => k_is)
    (case l__law_seen => k_is)
    (case c__law_seen => k_is)
    (case k__law_seen => k_is)
    (case a__law_uses => k_is)
    (case l__law_uses => k_is)
    (case c__law_uses => k_is)
    (case k__law_uses => k_is)
    (case a__law_used => k_is)
    (case l__law_used => k_is)
    (case c__law_used => k_is)
    (case k__law_used => k_is)
    (case a__law_made => k_is)
    (case l__law_made => k_is)
    (case c__law_made => k_is)
    (case k__law_made => k_is)
    (case a__law_program => k_is)
    (case l__law_program => k_is)
    (case c__law_program => k_is)
    (case k__law_program => k_is)
    (case a__law_row => k_is)
    (case l__law_row => k_is)
    (case c__law_row => k_is)
    (case k__law_row => k_is)
    (case a__law_many => k_is)
    (case l__law_many => k_is)
    (case c__law_many => k_is)
    (case k__law_many => k_is)
    (case a__law_words => k_is)
    (case l__law_words => k_is)
    (case c__law_words => k_is)
    (case k__law_words => k_is)
    (case a__law_drawn => k_is)
    (case l__law_drawn => k_is)
    (case c__law_drawn => k_is)
    (case k__law_drawn => k_is)
    (case a__law_inner => k_is)
    (case l__law_inner => k_is)
    (case c__law_inner => k_is)
    (case k__law_inner => k_is)
    (case a__law_kind_by => k_is)
    (case l__law_kind_by => k_is)
    (case c__law_kind_by => k_is)
    (case k__law_kind_by => k_is)
    (case a__law_parts => k_is)
    (case l__law_parts => k_is)
    (case c__law_parts => k_is)
    (case k__law_parts => k_is)
    (case a__law_with => k_is)
    (case l__law_with => k_is)
    (case c__law_with => k_is)
    (case k__law_with => k_is)
    (case a__law_told => k_is)
    (case l__law_told => k_is)
    (case c__law_told => k_is)
    (case k__law_told => k_is)
    (case a_law => k_is)
    (case l_law => k_is)
    (case c_law => k_is)
    (case k_law => k_is)
    (case z_list => k_is)
    (case z_reversed => k_is)
    (case z_int => k_is)
    (case z_enumerate => k_is)
    (case z_len => k_is)
    (case z_tuple => k_is)
    (case z_isinstance => k_is)
    (case z_ValueError => k_is)
    (case z_range => k_is)
    (case z_min => k_is)
    (case z_max => k_is)
    (case e_ONE => k_is)
    (case q_ONE => k_is)
    (case ka_KindError => k_is)
    (case kb_KindError => k_is)
    (case kt_KindError => k_is)
    (case ka_NoFit => k_is)
    (case kb_NoFit => k_is)
    (case kt_NoFit => k_is)
    (case ka_NoKind => k_is)
    (case kb_NoKind => k_is)
    (case kt_NoKind => k_is)
    (case ka_NoLong => k_is)
    (case kb_NoLong => k_is)
    (case kt_NoLong => k_is)
    (case ka_NoMaking => k_is)
    (case kb_NoMaking => k_is)
    (case kt_NoMaking => k_is)
    (case ka_NoText => k_is)
    (case kb_NoText => k_is)
    (case kt_NoText => k_is)
    (case ka_TooLong => k_is)
    (case kb_TooLong => k_is)
    (case kt_TooLong => k_is)
    (case ka_TooMany => k_is)
    (case kb_TooMany => k_is)
    (case kt_TooMany => k_is)
    (case kd_KindError => k_is)
    (case kf_KindError => k_is)
    (case kd_NoFit => k_is)
    (case kf_NoFit => k_is)
    (case kd_NoKind => k_is)
    (case kf_NoKind => k_is)
    (case kd_NoLong => k_is)
    (case kf_NoLong => k_is)
    (case kd_NoMaking => k_is)
    (case kf_NoMaking => k_is)
    (case kd_NoText => k_is)
    (case kf_NoText => k_is)
    (case kd_TooLong => k_is)
    (case kf_TooLong => k_is)
    (case kd_TooMany => k_is)
    (case kf_TooMany => k_is)
    (case bs_KindError => k_is)
    (case br_KindError => k_is)
    (case bf_KindError => k_is)
    (case ox_NoFit => k_is)
    (case hhz_NoFit => rfl)
    (case os_NoFit => k_is)
    (case okz_NoFit => k_is)
    (case onz_NoFit => k_is)
    (case a_NoFit___init__ => k_is)
    (case ti_NoFit___init__ => k_is)
    (case l_NoFit___init__ => k_is)
    (case c_NoFit___init__ => k_is)
    (case k_NoFit___init__ => k_is)
    (case ega_NoFit => k_is)
    (case egt_NoFit => k_is)
    (case edc_NoFit => k_is)
    (case ecc_NoFit => k_is)
    (case emo_NoFit => k_is)
    (case spc => k_is)
    (case tkc => k_is)
    (case sb_NoFit_KindError => k_is)
    (case sb_NoFit_ValueError => k_is)
    (case sb_NoFit_NoKind => k_is)
    (case sb_NoFit_NoLong => k_is)
    (case sb_NoFit_NoMaking => k_is)
    (case sb_NoFit_NoText => k_is)
    (case sb_NoFit_TooLong => k_is)
    (case sb_NoFit_TooMany => k_is)
